import PyProof.Rows.All
import Wide.All
import OpenK.AllK
import Wide.FinOn
import HandS.ForMost
import HandS.MakeKwOnly
import HandS.WordsExc
import HandS.Walk
import HandS.IsInst
import HandS.Deep
import HandS.OwnEq
import HandS.RaiseMore
import PyProof.ReprRoads
import PyProof.ReprLen
import PySem.Challenge.RW_heapworks_k64_regions_and_marks
set_option Elab.async false
set_option linter.all false
set_option maxRecDepth 100000
set_option maxHeartbeats 4000000
/-! Hz1: values as trees that are owned, or data that stays; what a tree says of the heap; changing trees. -/
namespace Hz
open PySem L2

/-! ### heaps that hold more -/
def Sub (H H' : Hp) : Prop := ∀ a o, H a = some o → H' a = some o
theorem Sub.refl (H : Hp) : Sub H H := fun _ _ h => h
theorem Sub.trans {H H1 H2 : Hp} (a : Sub H H1) (b : Sub H1 H2) : Sub H H2 := fun x o h => b x o (a x o h)
theorem Sub.new {H : Hp} {p : Addr} {o : HO} (h : H p = none) : Sub H (upd H p o) := fun a u e => by
  rw [upd_ne (ne_of_none e h)]
  exact e
theorem Sub.mut {H H' : Hp} {p : Addr} {o : HO} (e : Sub H H') (h : H p = none) : Sub H (upd H' p o) := fun a u ha => by
  rw [upd_ne (ne_of_none ha h)]
  exact e a u ha
theorem Sub.both {H H' : Hp} {p : Addr} {o : HO} (e : Sub H H') : Sub (upd H p o) (upd H' p o) := fun a u ha => by
  by_cases h : a = p
  · subst h
    rw [upd_same] at ha ⊢
    exact ha
  · rw [upd_ne h] at ha ⊢
    exact e a u ha
theorem rd_sub {H H' : Hp} {a : Addr} {u : HO} (e : Sub H H') (h : Rd H a u) : Rd H' a u := h.elim (fun h => .inl (e a _ h)) fun ⟨o, h⟩ => .inr ⟨o, e a _ h⟩
theorem sql_sub {K : PySem.W.Frag} {H H' : Hp} {a : Addr} {xs : List V} (e : Sub H H') (h : SqL K H a xs) : SqL K H' a xs := h.elim (fun h => .inl (rd_sub e h)) .inr
theorem sqt_sub {K : PySem.W.Frag} {H H' : Hp} {a : Addr} {xs : List V} (e : Sub H H') (h : SqT K H a xs) : SqT K H' a xs := h.elim (fun h => .inl (rd_sub e h)) .inr
mutual
theorem dp_sub {K : PySem.W.Frag} {H H' : Hp} (e : Sub H H') : ∀ (d : PyData) (v : V), Dp K H v d → Dp K H' v d
  | .none, _, h => by cases h; exact .non
  | .bool b, _, h => by cases h; exact .bl b
  | .int i, _, h => by cases h; exact .int i
  | .str x, _, h => by cases h; exact .str x
  | .list ds, _, h => by
    cases h with
    | lst hs ha => exact .lst (sql_sub e hs) (dpa_sub e ds _ ha)
  | .tuple ds, _, h => by
    cases h with
    | tup hs ha => exact .tup (sqt_sub e hs) (dpa_sub e ds _ ha)
  | .dict _, _, h => by cases h
theorem dpa_sub {K : PySem.W.Frag} {H H' : Hp} (e : Sub H H') : ∀ (ds : List PyData) (vs : List V), DpAll K H vs ds → DpAll K H' vs ds
  | [], _, h => by cases h; exact .nil
  | d :: ds, _, h => by
    cases h with
    | cons h1 h2 => exact .cons (dp_sub e d _ h1) (dpa_sub e ds _ h2)
end

/-! ### trees -/
inductive Stp where
  | ix (n : Nat) | fd (f : Str)
  deriving DecidableEq
/-- what a variable holds: data that nobody changes; a value as it is; a well (its content has an invariant alone); a list, tuple, dict, instance that is owned; a name's own tree; a borrowed one -/
inductive T where
  | dat (d : PyData)
  | cst (v : V)
  | well
  | lst (ts : List T)
  | tup (ts : List T)
  | dic (ks : List Key) (ts : List T)
  | ins (C : Addr) (ns : List Str) (ts : List T)
  | lz (j : Nat)
  | bor (j : Nat) (p : List Stp) (v : V) (t : T)

mutual
inductive Rep (K : PySem.W.Frag) (F : Hp) (W : List Addr) (H : Hp) : V → T → List Addr → Prop
  | dat {v : V} {d : PyData} : Dp K F v d → Rep K F W H v (.dat d) []
  | cst {v : V} : Rep K F W H v (.cst v) []
  | well {a : Addr} : a ∈ W → Rep K F W H (.ref a) .well []
  | lst {a : Addr} {vs : List V} {ts : List T} {fp fps : List Addr} : H a = some (.lst vs) → RepA K F W H vs ts fps → fp.Perm (a :: fps) → Rep K F W H (.ref a) (.lst ts) fp
  | tup {a : Addr} {vs : List V} {ts : List T} {fp fps : List Addr} : H a = some (.tup vs) → RepA K F W H vs ts fps → fp.Perm (a :: fps) → Rep K F W H (.ref a) (.tup ts) fp
  | dic {a : Addr} {ks : List Key} {vs : List V} {ts : List T} {fp fps : List Addr} : H a = some (.dK (ks.zip vs)) → ks.length = vs.length → RepA K F W H vs ts fps → fp.Perm (a :: fps) → Rep K F W H (.ref a) (.dic ks ts) fp
  | ins {a C dx : Addr} {ns : List Str} {vs : List V} {ts : List T} {fp fps : List Addr} : H a = some (.ins C dx (ns.zip vs)) → ns.length = vs.length → RepA K F W H vs ts fps → fp.Perm (a :: fps) → Rep K F W H (.ref a) (.ins C ns ts) fp
inductive RepA (K : PySem.W.Frag) (F : Hp) (W : List Addr) (H : Hp) : List V → List T → List Addr → Prop
  | nil : RepA K F W H [] [] []
  | cons {v : V} {vs : List V} {t : T} {ts : List T} {fp f1 f2 : List Addr} : Rep K F W H v t f1 → RepA K F W H vs ts f2 → fp.Perm (f1 ++ f2) → RepA K F W H (v :: vs) (t :: ts) fp
end

section
variable {K : PySem.W.Frag} {F F' : Hp} {W W' : List Addr} {H H' : Hp}
theorem Rep.perm {v : V} {t : T} {f g : List Addr} (h : Rep K F W H v t f) (p : f.Perm g) : Rep K F W H v t g := by
  cases h with
  | dat h => rw [List.perm_nil.mp p.symm]; exact .dat h
  | cst => rw [List.perm_nil.mp p.symm]; exact .cst
  | well h => rw [List.perm_nil.mp p.symm]; exact .well h
  | lst h1 h2 q => exact .lst h1 h2 (p.symm.trans q)
  | tup h1 h2 q => exact .tup h1 h2 (p.symm.trans q)
  | dic h1 h0 h2 q => exact .dic h1 h0 h2 (p.symm.trans q)
  | ins h1 h0 h2 q => exact .ins h1 h0 h2 (p.symm.trans q)

mutual
theorem rep_keep (eF : Sub F F') (eW : ∀ w ∈ W, w ∈ W') : ∀ (t : T) (v : V) (fp : List Addr), Rep K F W H v t fp → (∀ a ∈ fp, H' a = H a) → Rep K F' W' H' v t fp
  | .dat d, v, fp, h, k => by cases h with | dat h => exact .dat (dp_sub eF _ _ h)
  | .cst u, v, fp, h, k => by cases h; exact .cst
  | .well, v, fp, h, k => by cases h with | well h => exact .well (eW _ h)
  | .lst ts, v, fp, h, k => by
    cases h with
    | lst h1 h2 p => exact .lst ((k _ (p.mem_iff.mpr List.mem_cons_self)).trans h1) (repA_keep eF eW ts _ _ h2 fun a ha => k a (p.mem_iff.mpr (List.mem_cons_of_mem _ ha))) p
  | .tup ts, v, fp, h, k => by
    cases h with
    | tup h1 h2 p => exact .tup ((k _ (p.mem_iff.mpr List.mem_cons_self)).trans h1) (repA_keep eF eW ts _ _ h2 fun a ha => k a (p.mem_iff.mpr (List.mem_cons_of_mem _ ha))) p
  | .dic ks ts, v, fp, h, k => by
    cases h with
    | dic h1 h0 h2 p => exact .dic ((k _ (p.mem_iff.mpr List.mem_cons_self)).trans h1) h0 (repA_keep eF eW ts _ _ h2 fun a ha => k a (p.mem_iff.mpr (List.mem_cons_of_mem _ ha))) p
  | .ins C ns ts, v, fp, h, k => by
    cases h with
    | ins h1 h0 h2 p => exact .ins ((k _ (p.mem_iff.mpr List.mem_cons_self)).trans h1) h0 (repA_keep eF eW ts _ _ h2 fun a ha => k a (p.mem_iff.mpr (List.mem_cons_of_mem _ ha))) p
  | .lz j, v, fp, h, k => by cases h
  | .bor j p u t, v, fp, h, k => by cases h
theorem repA_keep (eF : Sub F F') (eW : ∀ w ∈ W, w ∈ W') : ∀ (ts : List T) (vs : List V) (fp : List Addr), RepA K F W H vs ts fp → (∀ a ∈ fp, H' a = H a) → RepA K F' W' H' vs ts fp
  | [], vs, fp, h, k => by cases h; exact .nil
  | t :: ts, vs, fp, h, k => by
    cases h with
    | cons h1 h2 p => exact .cons (rep_keep eF eW t _ _ h1 fun a ha => k a (p.mem_iff.mpr (List.mem_append_left _ ha))) (repA_keep eF eW ts _ _ h2 fun a ha => k a (p.mem_iff.mpr (List.mem_append_right _ ha))) p
end
mutual
/-- what is owned stands in the heap -/
theorem rep_in : ∀ (t : T) (v : V) (fp : List Addr), Rep K F W H v t fp → ∀ a ∈ fp, H a ≠ none
  | .dat d, v, fp, h, a, ha => by cases h; cases ha
  | .cst u, v, fp, h, a, ha => by cases h; cases ha
  | .well, v, fp, h, a, ha => by cases h; cases ha
  | .lst ts, v, fp, h, a, ha => by
    cases h with
    | lst h1 h2 p =>
      rcases List.mem_cons.mp (p.mem_iff.mp ha) with rfl | ha
      · rw [h1]; exact Option.some_ne_none _
      · exact repA_in ts _ _ h2 a ha
  | .tup ts, v, fp, h, a, ha => by
    cases h with
    | tup h1 h2 p =>
      rcases List.mem_cons.mp (p.mem_iff.mp ha) with rfl | ha
      · rw [h1]; exact Option.some_ne_none _
      · exact repA_in ts _ _ h2 a ha
  | .dic ks ts, v, fp, h, a, ha => by
    cases h with
    | dic h1 h0 h2 p =>
      rcases List.mem_cons.mp (p.mem_iff.mp ha) with rfl | ha
      · rw [h1]; exact Option.some_ne_none _
      · exact repA_in ts _ _ h2 a ha
  | .ins C ns ts, v, fp, h, a, ha => by
    cases h with
    | ins h1 h0 h2 p =>
      rcases List.mem_cons.mp (p.mem_iff.mp ha) with rfl | ha
      · rw [h1]; exact Option.some_ne_none _
      · exact repA_in ts _ _ h2 a ha
  | .lz j, v, fp, h, a, ha => by cases h
  | .bor j p u t, v, fp, h, a, ha => by cases h
theorem repA_in : ∀ (ts : List T) (vs : List V) (fp : List Addr), RepA K F W H vs ts fp → ∀ a ∈ fp, H a ≠ none
  | [], vs, fp, h, a, ha => by cases h; cases ha
  | t :: ts, vs, fp, h, a, ha => by
    cases h with
    | cons h1 h2 p =>
      rcases List.mem_append.mp (p.mem_iff.mp ha) with ha | ha
      · exact rep_in t _ _ h1 a ha
      · exact repA_in ts _ _ h2 a ha
end
end

/-! ### rows of such -/
section
variable {α β : Type}
inductive Lst (P : α → β → List Addr → Prop) : List α → List β → List Addr → Prop
  | nil : Lst P [] [] []
  | cons {x : α} {y : β} {xs : List α} {ys : List β} {fp f1 f2 : List Addr} : P x y f1 → Lst P xs ys f2 → fp.Perm (f1 ++ f2) → Lst P (x :: xs) (y :: ys) fp
variable {P P' : α → β → List Addr → Prop}
theorem Lst.perm {xs : List α} {ys : List β} {f g : List Addr} (h : Lst P xs ys f) (p : f.Perm g) : Lst P xs ys g := by
  cases h with
  | nil => rw [List.perm_nil.mp p.symm]; exact .nil
  | cons h1 h2 q => exact .cons h1 h2 (p.symm.trans q)
theorem Lst.len : ∀ {xs : List α} {ys : List β} {f : List Addr}, Lst P xs ys f → xs.length = ys.length
  | _, _, _, .nil => rfl
  | _, _, _, .cons _ h _ => by rw [List.length_cons, List.length_cons, h.len]
theorem Lst.one {x : α} {y : β} {f : List Addr} (h : P x y f) : Lst P [x] [y] f := .cons h .nil (by rw [List.append_nil])
theorem Lst.app : ∀ {xs : List α} {ys : List β} {f : List Addr} {xs' : List α} {ys' : List β} {f' : List Addr}, Lst P xs ys f → Lst P xs' ys' f' → Lst P (xs ++ xs') (ys ++ ys') (f ++ f')
  | _, _, _, _, _, _, .nil, h => h
  | _, _, _, _, _, f', .cons h1 h2 p, h => .cons h1 (Lst.app h2 h) (by rw [← List.append_assoc]; exact p.append_right f')
theorem Lst.cut : ∀ {xs : List α} {ys : List β} {xs' : List α} {ys' : List β} {f : List Addr}, Lst P (xs ++ xs') (ys ++ ys') f → xs.length = ys.length → ∃ f1 f2, f.Perm (f1 ++ f2) ∧ Lst P xs ys f1 ∧ Lst P xs' ys' f2
  | [], [], _, _, f, h, _ => ⟨[], f, .refl _, .nil, h⟩
  | [], _ :: _, _, _, f, h, e => by cases e
  | _ :: _, [], _, _, f, h, e => by cases e
  | x :: xs, y :: ys, _, _, f, .cons h1 h2 p, e => by
    obtain ⟨g1, g2, q, i1, i2⟩ := Lst.cut h2 (Nat.succ.inj e)
    exact ⟨_ ++ g1, g2, p.trans (by rw [List.append_assoc]; exact q.append_left _), .cons h1 i1 (.refl _), i2⟩
theorem Lst.mono {f₀ : List Addr} : ∀ {xs : List α} {ys : List β} {f : List Addr}, Lst P xs ys f → (∀ a ∈ f, a ∈ f₀) → (∀ x y g, P x y g → (∀ a ∈ g, a ∈ f₀) → P' x y g) → Lst P' xs ys f
  | _, _, _, .nil, _, _ => .nil
  | _, _, _, .cons h1 h2 p, hs, hm => .cons (hm _ _ _ h1 fun a ha => hs a (p.mem_iff.mpr (List.mem_append_left _ ha))) (Lst.mono h2 (fun a ha => hs a (p.mem_iff.mpr (List.mem_append_right _ ha))) hm) p
/-- one of a row -/
theorem Lst.focus : ∀ {xs : List α} {ys : List β} {f : List Addr} {i : Nat} {y : β}, Lst P xs ys f → ys[i]? = some y →
    ∃ x f1 f2, xs[i]? = some x ∧ P x y f1 ∧ f.Perm (f1 ++ f2) ∧ ∀ (P' : α → β → List Addr → Prop) (x' : α) (y' : β) (g : List Addr), (∀ x y g, P x y g → (∀ a ∈ g, a ∈ f2) → P' x y g) → P' x' y' g → Lst P' (xs.set i x') (ys.set i y') (g ++ f2)
  | _, _, _, _, _, .nil, h => by cases h
  | _, _, _, 0, y, .cons (f1 := f1) (f2 := f2) h1 h2 p, h => by
    cases h
    exact ⟨_, f1, f2, rfl, h1, p, fun P' x' y' g hm hp => .cons hp (h2.mono (fun _ ha => ha) hm) (.refl _)⟩
  | _, _, _, i + 1, y, .cons (x := x) (y := z) (f1 := f1) (f2 := f2) h1 h2 p, h => by
    obtain ⟨x1, g1, g2, e1, e2, e3, e4⟩ := Lst.focus (i := i) h2 h
    refine ⟨x1, g1, f1 ++ g2, e1, e2, p.trans ?_, fun P' x' y' g hm hp => ?_⟩
    · refine (e3.append_left f1).trans ?_
      rw [← List.append_assoc, ← List.append_assoc]
      exact List.perm_append_comm.append_right g2
    · refine .cons (hm _ _ _ h1 fun a ha => List.mem_append_left _ ha) (e4 P' x' y' g (fun x y g' hp' hs => hm x y g' hp' fun a ha => List.mem_append_right _ (hs a ha)) hp) ?_
      rw [← List.append_assoc, ← List.append_assoc]
      exact List.perm_append_comm.append_right g2
end
section
variable {K : PySem.W.Frag} {F F' : Hp} {W W' : List Addr} {H H' : Hp}
theorem repA_iff : ∀ {ts : List T} {vs : List V} {f : List Addr}, RepA K F W H vs ts f ↔ Lst (Rep K F W H) vs ts f
  | [], vs, f => ⟨fun h => by cases h; exact .nil, fun h => by cases h; exact .nil⟩
  | t :: ts, vs, f => ⟨fun h => by cases h with | cons h1 h2 p => exact .cons h1 (repA_iff.mp h2) p, fun h => by cases h with | cons h1 h2 p => exact .cons h1 (repA_iff.mpr h2) p⟩

/-! ### places in trees -/
def fpos : List Str → Str → Option Nat
  | [], _ => none
  | n :: r, f => if n = f then some 0 else (fpos r f).map (· + 1)
def T.child : T → Stp → Option T
  | .lst ts, .ix n => ts[n]?
  | .tup ts, .ix n => ts[n]?
  | .ins _ ns ts, .fd f => (fpos ns f).bind fun i => ts[i]?
  | _, _ => none
def T.putc : T → Stp → T → T
  | .lst ts, .ix n, s => .lst (ts.set n s)
  | .tup ts, .ix n, s => .tup (ts.set n s)
  | .ins C ns ts, .fd f, s => .ins C ns (match fpos ns f with | some i => ts.set i s | none => ts)
  | t, _, _ => t
def T.get : T → List Stp → Option T
  | t, [] => some t
  | t, s :: p => (t.child s).bind fun c => c.get p
def T.put : T → List Stp → T → T
  | _, [], u => u
  | t, s :: p, u => match t.child s with | some c => t.putc s (c.put p u) | none => t

theorem lookup_zip : ∀ {ns : List Str} {vs : List V} {f : Str}, ns.length = vs.length → (ns.zip vs).lookup f = (fpos ns f).bind fun i => vs[i]?
  | [], vs, f, h => rfl
  | n :: ns, [], f, h => by cases h
  | n :: ns, v :: vs, f, h => by
    have ih := lookup_zip (ns := ns) (vs := vs) (f := f) (Nat.succ.inj h)
    show List.lookup f ((n, v) :: ns.zip vs) = (if n = f then some 0 else (fpos ns f).map (· + 1)).bind fun i => (v :: vs)[i]?
    by_cases e : n = f
    · have hb : (f == n) = true := beq_iff_eq.mpr e.symm
      simp only [List.lookup, hb, if_pos e]
      rfl
    · have hb : (f == n) = false := beq_eq_false_iff_ne.mpr (fun z => e z.symm)
      simp only [List.lookup, hb, if_neg e]
      rw [ih]
      cases fpos ns f with
      | none => rfl
      | some i => rfl
/-- the value u stands at st of the value v -/
def AtH (H : Hp) (v : V) (st : Stp) (u : V) : Prop := match st with
  | .ix n => ∃ a us, v = .ref a ∧ (H a = some (.lst us) ∨ H a = some (.tup us)) ∧ us[n]? = some u
  | .fd f => ∃ a C dx fs, v = .ref a ∧ H a = some (.ins C dx fs) ∧ fs.lookup f = some u

theorem rep_child {t c : T} {s : Stp} {v : V} {fp : List Addr} (h : Rep K F W H v t fp) (hc : t.child s = some c) :
    ∃ u f1 f2, fp.Perm (f1 ++ f2) ∧ Rep K F W H u c f1 ∧ AtH H v s u ∧ ∀ (F' : Hp) (W' : List Addr) (H' : Hp) (c' : T) (g : List Addr), Sub F F' → (∀ w ∈ W, w ∈ W') → (∀ a ∈ f2, H' a = H a) → Rep K F' W' H' u c' g → Rep K F' W' H' v (t.putc s c') (g ++ f2) := by
  have key : ∀ {a : Addr} {vs : List V} {ts : List T} {fps : List Addr} {i : Nat}, RepA K F W H vs ts fps → fp.Perm (a :: fps) → ts[i]? = some c →
      ∃ u f1 f2, fp.Perm (f1 ++ a :: f2) ∧ vs[i]? = some u ∧ Rep K F W H u c f1 ∧ ∀ (F' : Hp) (W' : List Addr) (H' : Hp) (c' : T) (g : List Addr), Sub F F' → (∀ w ∈ W, w ∈ W') → (∀ a ∈ f2, H' a = H a) → Rep K F' W' H' u c' g → RepA K F' W' H' vs (ts.set i c') (g ++ f2) := by
    intro a vs ts fps i h2 p hi
    obtain ⟨u, f1, f2, e1, e2, e3, e4⟩ := (repA_iff.mp h2).focus hi
    refine ⟨u, f1, f2, p.trans ((e3.cons a).trans List.perm_middle.symm), e1, e2, fun F' W' H' c' g eF eW hk hr => ?_⟩
    have q := e4 (Rep K F' W' H') u c' g (fun x y g' hp hs => rep_keep eF eW y x g' hp fun a ha => hk a (hs a ha)) hr
    have es : vs.set i u = vs := by
      obtain ⟨hi1, hi2⟩ := List.getElem?_eq_some_iff.mp e1
      rw [← hi2]
      exact List.set_getElem_self hi1
    rw [es] at q
    exact repA_iff.mpr q
  cases h with
  | dat h => cases s <;> cases hc
  | cst => cases s <;> cases hc
  | well h => cases s <;> cases hc
  | dic h1 h0 h2 p => cases s <;> cases hc
  | lst h1 h2 p =>
    cases s with
    | fd f => cases hc
    | ix n =>
      obtain ⟨u, f1, f2, p1, e0, e2, e3⟩ := key h2 p hc
      refine ⟨u, f1, _ :: f2, p1, e2, ⟨_, _, rfl, .inl h1, e0⟩, fun F' W' H' c' g eF eW hk hr => ?_⟩
      exact .lst ((hk _ List.mem_cons_self).trans h1) (e3 F' W' H' c' g eF eW (fun a ha => hk a (List.mem_cons_of_mem _ ha)) hr) List.perm_middle
  | tup h1 h2 p =>
    cases s with
    | fd f => cases hc
    | ix n =>
      obtain ⟨u, f1, f2, p1, e0, e2, e3⟩ := key h2 p hc
      refine ⟨u, f1, _ :: f2, p1, e2, ⟨_, _, rfl, .inr h1, e0⟩, fun F' W' H' c' g eF eW hk hr => ?_⟩
      exact .tup ((hk _ List.mem_cons_self).trans h1) (e3 F' W' H' c' g eF eW (fun a ha => hk a (List.mem_cons_of_mem _ ha)) hr) List.perm_middle
  | ins h1 h0 h2 p =>
    cases s with
    | ix n => cases hc
    | fd f =>
      rename_i C dx ns vs ts fps
      have hc' : ((fpos ns f).bind fun i => ts[i]?) = some c := hc
      cases hf : fpos ns f with
      | none => rw [hf] at hc'; cases hc'
      | some i =>
        rw [hf] at hc'
        obtain ⟨u, f1, f2, p1, e0, e2, e3⟩ := key h2 p hc'
        refine ⟨u, f1, _ :: f2, p1, e2, ⟨_, _, _, _, rfl, h1, by rw [lookup_zip h0, hf]; exact e0⟩, fun F' W' H' c' g eF eW hk hr => ?_⟩
        have q := e3 F' W' H' c' g eF eW (fun a ha => hk a (List.mem_cons_of_mem _ ha)) hr
        show Rep K F' W' H' _ (.ins C ns (match fpos ns f with | some i => ts.set i c' | none => ts)) _
        rw [hf]
        exact .ins ((hk _ List.mem_cons_self).trans h1) h0 q List.perm_middle
theorem rep_focus : ∀ (p : List Stp) {t s : T} {v : V} {fp : List Addr}, Rep K F W H v t fp → t.get p = some s →
    ∃ u f1 f2, fp.Perm (f1 ++ f2) ∧ Rep K F W H u s f1 ∧ ∀ (F' : Hp) (W' : List Addr) (H' : Hp) (s' : T) (g : List Addr), Sub F F' → (∀ w ∈ W, w ∈ W') → (∀ a ∈ f2, H' a = H a) → Rep K F' W' H' u s' g → Rep K F' W' H' v (t.put p s') (g ++ f2)
  | [], t, s, v, fp, h, e => by
    cases e
    exact ⟨v, fp, [], by rw [List.append_nil], h, fun F' W' H' s' g _ _ _ hr => by rw [List.append_nil]; exact hr⟩
  | x :: p, t, s, v, fp, h, e => by
    have e' : ((t.child x).bind fun c => c.get p) = some s := e
    cases hc : t.child x with
    | none => rw [hc] at e'; cases e'
    | some c =>
      rw [hc] at e'
      obtain ⟨u, f1, f2, p1, hu, _, hk⟩ := rep_child h hc
      obtain ⟨w, g1, g2, q1, hw, hk2⟩ := rep_focus p hu e'
      refine ⟨w, g1, g2 ++ f2, p1.trans (by rw [← List.append_assoc]; exact q1.append_right f2), hw, fun F' W' H' s' g eF eW hh hr => ?_⟩
      have r := hk F' W' H' _ _ eF eW (fun a ha => hh a (List.mem_append_right _ ha)) (hk2 F' W' H' s' g eF eW (fun a ha => hh a (List.mem_append_left _ ha)) hr)
      show Rep K F' W' H' v (match t.child x with | some c => t.putc x (c.put p s') | none => t) _
      rw [hc, ← List.append_assoc]
      exact r
end

/-! ### steps: what changes, what stays -/
structure Wf (I : HO → Prop) (F : Hp) (W : List Addr) (H : Hp) (fp : List Addr) : Prop where
  sub : Sub F H
  own : ∀ a ∈ fp, F a = none ∧ a ∉ W ∧ H a ≠ none
  wel : ∀ w ∈ W, F w = none ∧ ∃ o, H w = some o ∧ I o
structure Step (I : HO → Prop) (F : Hp) (W : List Addr) (H : Hp) (fp : List Addr) (F' : Hp) (W' : List Addr) (H' : Hp) (fp' : List Addr) : Prop where
  wf : Wf I F' W' H' fp'
  subF : Sub F F'
  subW : ∀ w ∈ W, w ∈ W'
  keep : ∀ a o, H a = some o → a ∉ fp → a ∉ W → H' a = some o
  there : ∀ a, H a ≠ none → H' a ≠ none
  newO : ∀ a ∈ fp', a ∈ fp ∨ H a = none
  newF : ∀ a, F' a ≠ none → F a ≠ none ∨ a ∈ fp ∨ H a = none
  newW : ∀ w ∈ W', w ∈ W ∨ w ∈ fp ∨ H w = none
section
variable {I : HO → Prop} {F F1 F2 : Hp} {W W1 W2 : List Addr} {H H1 H2 : Hp} {fp f1 f2 fr : List Addr}
theorem Wf.less (w : Wf I F W H fp) (h : ∀ a ∈ f1, a ∈ fp) : Wf I F W H f1 := ⟨w.sub, fun a ha => w.own a (h a ha), w.wel⟩
theorem Step.refl (w : Wf I F W H fp) : Step I F W H fp F W H fp :=
  ⟨w, .refl _, fun _ h => h, fun _ _ h _ _ => h, fun _ h => h, fun _ h => .inl h, fun _ h => .inl h, fun _ h => .inl h⟩
theorem Step.less (s : Step I F W H fp F1 W1 H1 f1) (h : ∀ a ∈ f2, a ∈ f1) : Step I F W H fp F1 W1 H1 f2 :=
  ⟨s.wf.less h, s.subF, s.subW, s.keep, s.there, fun a ha => s.newO a (h a ha), s.newF, s.newW⟩
theorem Step.trans (a : Step I F W H fp F1 W1 H1 f1) (b : Step I F1 W1 H1 f1 F2 W2 H2 f2) : Step I F W H fp F2 W2 H2 f2 := by
  refine ⟨b.wf, a.subF.trans b.subF, fun w h => b.subW w (a.subW w h), fun x o h n1 n2 => ?_, fun x h => b.there x (a.there x h), fun x h => ?_, fun x h => ?_, fun x h => ?_⟩
  · have hn : H x ≠ none := by rw [h]; exact Option.some_ne_none _
    refine b.keep x o (a.keep x o h n1 n2) (fun z => ?_) fun z => ?_
    · rcases a.newO x z with q | q
      · exact n1 q
      · exact hn q
    · rcases a.newW x z with q | q | q
      · exact n2 q
      · exact n1 q
      · exact hn q
  · rcases b.newO x h with q | q
    · exact a.newO x q
    · refine .inr ?_
      cases e : H x with
      | none => rfl
      | some o => exact absurd q (a.there x (by rw [e]; exact Option.some_ne_none _))
  · rcases b.newF x h with q | q | q
    · exact a.newF x q
    · rcases a.newO x q with z | z
      · exact .inr (.inl z)
      · exact .inr (.inr z)
    · refine .inr (.inr ?_)
      cases e : H x with
      | none => rfl
      | some o => exact absurd q (a.there x (by rw [e]; exact Option.some_ne_none _))
  · rcases b.newW x h with q | q | q
    · exact a.newW x q
    · rcases a.newO x q with z | z
      · exact .inr (.inl z)
      · exact .inr (.inr z)
    · refine .inr (.inr ?_)
      cases e : H x with
      | none => rfl
      | some o => exact absurd q (a.there x (by rw [e]; exact Option.some_ne_none _))
/-- beside what is not touched -/
theorem Step.frame (s : Step I F W H f1 F1 W1 H1 f2) (w : Wf I F W H (f1 ++ fr)) (nd : (f1 ++ fr).Nodup) (nd2 : f2.Nodup) : Step I F W H (f1 ++ fr) F1 W1 H1 (f2 ++ fr) ∧ (f2 ++ fr).Nodup ∧ ∀ a ∈ fr, H1 a = H a := by
  obtain ⟨n1, n2, n3⟩ := List.nodup_append.mp nd
  have nf : ∀ a ∈ fr, a ∉ f1 := fun a ha h => n3 a h a ha rfl
  have hin : ∀ a ∈ fr, F a = none ∧ a ∉ W ∧ H a ≠ none := fun a ha => w.own a (List.mem_append_right _ ha)
  have hk : ∀ a ∈ fr, H1 a = H a := fun a ha => by
    cases e : H a with
    | none => exact absurd e (hin a ha).2.2
    | some o => exact s.keep a o e (nf a ha) (hin a ha).2.1
  refine ⟨⟨⟨s.wf.sub, fun a ha => ?_, s.wf.wel⟩, s.subF, s.subW, fun a o h n _ => s.keep a o h (fun z => n (List.mem_append_left _ z)) ‹_›, s.there, fun a ha => ?_, fun a ha => ?_, fun a ha => ?_⟩, ?_, hk⟩
  · rcases List.mem_append.mp ha with ha | ha
    · exact s.wf.own a ha
    · obtain ⟨g1, g2, g3⟩ := hin a ha
      refine ⟨?_, fun z => ?_, s.there a g3⟩
      · cases e : F1 a with
        | none => rfl
        | some o =>
          rcases s.newF a (by rw [e]; exact Option.some_ne_none _) with q | q | q
          · exact absurd g1 q
          · exact absurd q (nf a ha)
          · exact absurd q g3
      · rcases s.newW a z with q | q | q
        · exact g2 q
        · exact nf a ha q
        · exact g3 q
  · rcases List.mem_append.mp ha with ha | ha
    · rcases s.newO a ha with q | q
      · exact .inl (List.mem_append_left _ q)
      · exact .inr q
    · exact .inl (List.mem_append_right _ ha)
  · rcases s.newF a ha with q | q | q
    · exact .inl q
    · exact .inr (.inl (List.mem_append_left _ q))
    · exact .inr (.inr q)
  · rcases s.newW a ha with q | q | q
    · exact .inl q
    · exact .inr (.inl (List.mem_append_left _ q))
    · exact .inr (.inr q)
  · refine List.nodup_append.mpr ⟨nd2, n2, fun a ha b hb e => ?_⟩
    subst e
    rcases s.newO a ha with q | q
    · exact nf a hb q
    · exact (hin a hb).2.2 q
theorem Step.perm (s : Step I F W H f1 F1 W1 H1 f2) {g1 g2 : List Addr} (p : f1.Perm g1) (q : f2.Perm g2) : Step I F W H g1 F1 W1 H1 g2 :=
  ⟨s.wf.less fun a ha => q.mem_iff.mpr ha, s.subF, s.subW, fun a o h n => s.keep a o h fun z => n (p.mem_iff.mp z), s.there, fun a ha => (s.newO a (q.mem_iff.mpr ha)).imp p.mem_iff.mp id,
    fun a ha => (s.newF a ha).imp id (Or.imp p.mem_iff.mp id), fun a ha => (s.newW a ha).imp id (Or.imp p.mem_iff.mp id)⟩
end
end Hz
/-! Hz2: the state of a body by its trees: slots and values at hand; the moves on it. -/
namespace Hz
open PySem L2
abbrev Rho := List (Option T)
inductive RepS (K : PySem.W.Frag) (F : Hp) (W : List Addr) (H : Hp) : Option V → Option T → List Addr → Prop
  | non {x : Option V} : RepS K F W H x none []
  | som {v : V} {t : T} {f : List Addr} : Rep K F W H v t f → RepS K F W H (some v) (some t) f
inductive RepT (K : PySem.W.Frag) (F : Hp) (W : List Addr) (H : Hp) (σ : L2.St) : V → T → List Addr → Prop
  | of {v : V} {t : T} {f : List Addr} : Rep K F W H v t f → RepT K F W H σ v t f
  | lz {j : Nat} {v : V} : σ[j]? = some (some v) → RepT K F W H σ v (.lz j) []
  | bor {j : Nat} {p : List Stp} {v : V} {t : T} {f : List Addr} : Rep K F W H v t f → RepT K F W H σ v (.bor j p v t) f
/-- no name, nothing borrowed -/
def T.real : T → Bool
  | .lz _ => false
  | .bor _ _ _ _ => false
  | _ => true
def T.noLz : T → Bool
  | .lz _ => false
  | _ => true
section
variable {K : PySem.W.Frag} {F F' : Hp} {W W' : List Addr} {H H' : Hp} {σ σ' : L2.St}
theorem RepT.real {v : V} {t : T} {f : List Addr} (h : RepT K F W H σ v t f) (ht : t.real = true) : Rep K F W H v t f := by
  cases h with
  | of h => exact h
  | lz h => cases ht
  | bor h => cases ht
theorem RepT.sig {v : V} {t : T} {f : List Addr} (h : RepT K F W H σ v t f) (ht : t.noLz = true) : RepT K F W H σ' v t f := by
  cases h with
  | of h => exact .of h
  | lz h => cases ht
  | bor h => exact .bor h
theorem RepT.keep {v : V} {t : T} {f : List Addr} (h : RepT K F W H σ v t f) (eF : Sub F F') (eW : ∀ w ∈ W, w ∈ W') (hk : ∀ a ∈ f, H' a = H a) : RepT K F' W' H' σ v t f := by
  cases h with
  | of h => exact .of (rep_keep eF eW _ _ _ h hk)
  | lz h => exact .lz h
  | bor h => exact .bor (rep_keep eF eW _ _ _ h hk)
theorem RepS.keep {v : Option V} {t : Option T} {f : List Addr} (h : RepS K F W H v t f) (eF : Sub F F') (eW : ∀ w ∈ W, w ∈ W') (hk : ∀ a ∈ f, H' a = H a) : RepS K F' W' H' v t f := by
  cases h with
  | non => exact .non
  | som h => exact .som (rep_keep eF eW _ _ _ h hk)
end

structure Ct where
  H0 : Hp
  F0 : Hp
  W0 : List Addr
  fp0 : List Addr
  σ0 : L2.St
/-- what holds of wells; the slots that keep their values -/
structure Sg where
  inv : HO → Prop
  prot : List Nat

structure R (K : PySem.W.Frag) (I : Sg) (c : Ct) (ρ : Rho) (tm : List T) (σ : L2.St) (vs : List V) (F : Hp) (W : List Addr) (H : Hp) : Prop where
  ex : ∃ f1 f2, Lst (RepT K F W H σ) vs tm f1 ∧ Lst (RepS K F W H) σ ρ f2 ∧ (f1 ++ f2).Nodup ∧ Step I.inv c.F0 c.W0 c.H0 c.fp0 F W H (f1 ++ f2)
  pr : ∀ i ∈ I.prot, σ[i]? = c.σ0[i]?

section
variable {K : PySem.W.Frag} {I : Sg} {c : Ct} {ρ : Rho} {t : T} {tm ts : List T} {σ : L2.St} {v : V} {vs us : List V} {F : Hp} {W : List Addr} {H : Hp}

theorem nodup_of_perm {f g : List Addr} (p : f.Perm g) (h : f.Nodup) : g.Nodup := p.nodup_iff.mp h

theorem R.wf (h : R K I c ρ tm σ vs F W H) : Wf I.inv F W H [] := by
  obtain ⟨f1, f2, _, _, _, s⟩ := h.ex
  exact s.wf.less fun a ha => nomatch ha
theorem R.sub (h : R K I c ρ tm σ vs F W H) : Sub F H := h.wf.sub

/-- THE STEP: the values on top are used up, others come; slots and the rest stand -/
theorem R.loc (h : R K I c ρ (ts ++ tm) σ (us ++ vs) F W H) (hl : us.length = ts.length) :
    ∃ fA, Lst (RepT K F W H σ) us ts fA ∧ fA.Nodup ∧ Wf I.inv F W H fA ∧ ∀ {us' : List V} {ts' : List T} {fB : List Addr} {F' : Hp} {W' : List Addr} {H' : Hp},
      Step I.inv F W H fA F' W' H' fB → fB.Nodup → Lst (RepT K F' W' H' σ) us' ts' fB → R K I c ρ (ts' ++ tm) σ (us' ++ vs) F' W' H' := by
  obtain ⟨f1, f2, h1, h2, nd, s⟩ := h.ex
  obtain ⟨fA, fr, p, hA, hr⟩ := h1.cut hl
  have q : (f1 ++ f2).Perm (fA ++ (fr ++ f2)) := by
    rw [← List.append_assoc]
    exact p.append_right f2
  have s' := s.perm (.refl _) q
  have nd' := nodup_of_perm q nd
  refine ⟨fA, hA, (List.nodup_append.mp nd').1, s'.wf.less fun a ha => List.mem_append_left _ ha, fun {us' ts' fB F' W' H'} st ndB hB => ⟨?_, h.pr⟩⟩
  obtain ⟨st1, nd1, hk⟩ := st.frame s'.wf nd' ndB
  refine ⟨fB ++ fr, f2, hB.app (hr.mono (f₀ := fr) (fun _ z => z) fun x y g hp hs => hp.keep st.subF st.subW fun a ha => hk a (List.mem_append_left _ (hs a ha))), ?_, ?_, ?_⟩
  · exact h2.mono (f₀ := f2) (fun _ z => z) fun x y g hp hs => hp.keep st.subF st.subW fun a ha => hk a (List.mem_append_right _ (hs a ha))
  · rw [List.append_assoc]; exact nd1
  · rw [List.append_assoc]; exact s'.trans st1
theorem R.drop (h : R K I c ρ (t :: tm) σ (v :: vs) F W H) : R K I c ρ tm σ vs F W H := by
  obtain ⟨fA, hA, nd, wf, k⟩ := h.loc (ts := [t]) (us := [v]) rfl
  exact k (us' := []) (ts' := []) (fB := []) (Step.refl wf |>.less fun a ha => nomatch ha) .nil .nil
theorem R.dat {d : PyData} (h : R K I c ρ tm σ vs F W H) (hd : Dp K F v d) : R K I c ρ (.dat d :: tm) σ (v :: vs) F W H := by
  obtain ⟨fA, hA, nd, wf, k⟩ := R.loc (ts := []) (us := []) h rfl
  cases hA
  exact k (us' := [v]) (ts' := [.dat d]) (fB := []) (Step.refl wf) .nil (.one (.of (.dat hd)))
theorem R.cst (h : R K I c ρ tm σ vs F W H) : R K I c ρ (.cst v :: tm) σ (v :: vs) F W H := by
  obtain ⟨fA, hA, nd, wf, k⟩ := R.loc (ts := []) (us := []) h rfl
  cases hA
  exact k (us' := [v]) (ts' := [.cst v]) (fB := []) (Step.refl wf) .nil (.one (.of .cst))
theorem R.well {a : Addr} (h : R K I c ρ tm σ vs F W H) (ha : a ∈ W) : R K I c ρ (.well :: tm) σ (.ref a :: vs) F W H := by
  obtain ⟨fA, hA, nd, wf, k⟩ := R.loc (ts := []) (us := []) h rfl
  cases hA
  exact k (us' := [.ref a]) (ts' := [.well]) (fB := []) (Step.refl wf) .nil (.one (.of (.well ha)))
theorem R.lz {j : Nat} (h : R K I c ρ tm σ vs F W H) (ha : σ[j]? = some (some v)) : R K I c ρ (.lz j :: tm) σ (v :: vs) F W H := by
  obtain ⟨fA, hA, nd, wf, k⟩ := R.loc (ts := []) (us := []) h rfl
  cases hA
  exact k (us' := [v]) (ts' := [.lz j]) (fB := []) (Step.refl wf) .nil (.one (.lz ha))
/-- the value on top as data -/
theorem R.topDat {d : PyData} (h : R K I c ρ (.dat d :: tm) σ (v :: vs) F W H) : Dp K F v d := by
  obtain ⟨fA, hA, _⟩ := h.loc (ts := [.dat d]) (us := [v]) rfl
  cases hA with
  | cons h1 _ _ =>
    cases h1.real rfl with
    | dat h => exact h
theorem R.topCst {u : V} (h : R K I c ρ (.cst u :: tm) σ (v :: vs) F W H) : v = u := by
  obtain ⟨fA, hA, _⟩ := h.loc (ts := [.cst u]) (us := [v]) rfl
  cases hA with
  | cons h1 _ _ =>
    cases h1.real rfl
    rfl
theorem R.topWell (h : R K I c ρ (.well :: tm) σ (v :: vs) F W H) : ∃ a, v = .ref a ∧ a ∈ W := by
  obtain ⟨fA, hA, _⟩ := h.loc (ts := [.well]) (us := [v]) rfl
  cases hA with
  | cons h1 _ _ =>
    cases h1.real rfl with
    | well hw => exact ⟨_, rfl, hw⟩
/-- the values at hand in another order -/
theorem R.mid (h : R K I c ρ (ts ++ t :: tm) σ (us ++ v :: vs) F W H) (hl : us.length = ts.length) : R K I c ρ (t :: (ts ++ tm)) σ (v :: (us ++ vs)) F W H := by
  obtain ⟨f1, f2, h1, h2, nd, s⟩ := h.ex
  obtain ⟨g1, g2, p, i1, i2⟩ := h1.cut hl
  cases i2 with
  | cons j1 j2 q =>
    rename_i e1 e2
    have hp : f1.Perm (e1 ++ (g1 ++ e2)) := by
      refine p.trans ((q.append_left g1).trans ?_)
      rw [← List.append_assoc, ← List.append_assoc]
      exact List.perm_append_comm.append_right e2
    exact ⟨⟨f1, f2, (Lst.cons j1 (i1.app j2) (.refl _)).perm hp.symm, h2, nd, s⟩, h.pr⟩
theorem R.unmid (h : R K I c ρ (t :: (ts ++ tm)) σ (v :: (us ++ vs)) F W H) (hl : us.length = ts.length) : R K I c ρ (ts ++ t :: tm) σ (us ++ v :: vs) F W H := by
  obtain ⟨f1, f2, h1, h2, nd, s⟩ := h.ex
  cases h1 with
  | cons j1 j2 q =>
    rename_i e1 e2
    obtain ⟨g1, g2, p, i1, i2⟩ := j2.cut hl
    refine ⟨⟨f1, f2, (i1.app (Lst.cons j1 i2 (.refl _))).perm ?_, h2, nd, s⟩, h.pr⟩
    refine List.Perm.symm (q.trans ((p.append_left e1).trans ?_))
    rw [← List.append_assoc, ← List.append_assoc]
    exact List.perm_append_comm.append_right g2
theorem R.slot {j : Nat} {s : T} (h : R K I c ρ tm σ vs F W H) (hj : ρ[j]? = some (some s)) : ∃ u f, σ[j]? = some (some u) ∧ Rep K F W H u s f ∧ Wf I.inv F W H f := by
  obtain ⟨f1, f2, h1, h2, nd, st⟩ := h.ex
  obtain ⟨x, g1, g2, e1, e2, p, _⟩ := h2.focus hj
  cases e2 with
  | som e2 => exact ⟨_, g1, e1, e2, st.wf.less fun a ha => List.mem_append_right _ (p.mem_iff.mpr (List.mem_append_left _ ha))⟩
/-- a part of a slot's tree is taken out; its place keeps the value -/
theorem R.take {j : Nat} {p : List Stp} {t s : T} (h : R K I c ρ tm σ vs F W H) (hj : ρ[j]? = some (some t)) (hp : t.get p = some s) :
    ∃ u, R K I c (ρ.set j (some (t.put p (.cst u)))) (s :: tm) σ (u :: vs) F W H ∧ (p = [] → σ[j]? = some (some u)) := by
  obtain ⟨f1, f2, h1, h2, nd, st⟩ := h.ex
  obtain ⟨x, g1, g2, e1, e2, q, k⟩ := h2.focus hj
  cases e2 with
  | som e2 =>
    rename_i v0
    obtain ⟨u, d1, d2, q2, hu, k2⟩ := rep_focus p e2 hp
    have r := k2 F W H (.cst u) [] (.refl _) (fun _ z => z) (fun _ _ => rfl) .cst
    have es : σ.set j (some v0) = σ := by
      obtain ⟨hi1, hi2⟩ := List.getElem?_eq_some_iff.mp e1
      rw [← hi2]
      exact List.set_getElem_self hi1
    have r2 := k (RepS K F W H) (some v0) (some (t.put p (.cst u))) ([] ++ d2) (fun x y g hp hs => hp) (.som r)
    rw [es] at r2
    have pm : (f1 ++ f2).Perm ((d1 ++ f1) ++ (([] ++ d2) ++ g2)) := by
      refine ((q.append_left f1).trans ((q2.append_right g2).append_left f1)).trans ?_
      rw [List.nil_append, List.append_assoc, ← List.append_assoc, ← List.append_assoc (d1 ++ f1)]
      rw [List.append_assoc f1 d1, ← List.append_assoc f1 d1, List.append_assoc (d1 ++ f1)]
      exact List.perm_append_comm.append_right (d2 ++ g2)
    refine ⟨u, ⟨⟨d1 ++ f1, ([] ++ d2) ++ g2, .cons (.of hu) h1 (.refl _), r2, nodup_of_perm pm nd, st.perm (.refl _) pm⟩, h.pr⟩, fun e => ?_⟩
    subst e
    cases hp
    have r' := k2 F W H (.cst v0) [] (.refl _) (fun _ z => z) (fun _ _ => rfl)
    have : u = v0 := by
      have w := k2 F W H (.cst u) [] (.refl _) (fun _ z => z) (fun _ _ => rfl) .cst
      cases w with
      | cst => rfl
    rw [this]
    exact e1
/-- .. and put back -/
theorem R.put {j : Nat} {p : List Stp} {t s : T} {u : V} (h : R K I c ρ (s :: tm) σ (u :: vs) F W H) (hs : s.real = true) (hj : ρ[j]? = some (some t)) (hp : t.get p = some (.cst u)) :
    R K I c (ρ.set j (some (t.put p s))) tm σ vs F W H := by
  obtain ⟨f1, f2, h1, h2, nd, st⟩ := h.ex
  cases h1 with
  | cons j1 j2 q0 =>
    rename_i a1 a2
    obtain ⟨x, g1, g2, e1, e2, q, k⟩ := h2.focus hj
    cases e2 with
    | som e2 =>
      rename_i v0
      obtain ⟨u', d1, d2, q2, hu, k2⟩ := rep_focus p e2 hp
      cases hu
      have r := k2 F W H s a1 (.refl _) (fun _ z => z) (fun _ _ => rfl) (j1.real hs)
      have es : σ.set j (some v0) = σ := by
        obtain ⟨hi1, hi2⟩ := List.getElem?_eq_some_iff.mp e1
        rw [← hi2]
        exact List.set_getElem_self hi1
      have r2 := k (RepS K F W H) (some v0) (some (t.put p s)) (a1 ++ d2) (fun x y g hp hs => hp) (.som r)
      rw [es] at r2
      have pm : (f1 ++ f2).Perm (a2 ++ ((a1 ++ d2) ++ g2)) := by
        refine ((q0.append_right f2).trans ((q.trans (q2.append_right g2)).append_left (a1 ++ a2))).trans ?_
        rw [List.nil_append, List.append_assoc a1 d2, ← List.append_assoc a2 a1]
        exact List.perm_append_comm.append_right (d2 ++ g2)
      exact ⟨⟨a2, (a1 ++ d2) ++ g2, j2, r2, nodup_of_perm pm nd, st.perm (.refl _) pm⟩, h.pr⟩
/-- a slot gets the value on top -/
theorem R.set {i : Nat} (h : R K I c ρ (t :: tm) σ (v :: vs) F W H) (ht : t.real = true) (hz : ∀ x ∈ tm, x.noLz = true) (hi : i ∉ I.prot) : R K I c (ρ.set i (some t)) tm (σ.set i (some v)) vs F W H := by
  obtain ⟨f1, f2, h1, h2, nd, st⟩ := h.ex
  have pr' : ∀ k ∈ I.prot, (σ.set i (some v))[k]? = c.σ0[k]? := fun k hk => by
    rw [List.getElem?_set_ne (fun e => hi (by rw [e]; exact hk))]
    exact h.pr k hk
  have sig : ∀ {xs : List V} {ys : List T} {f : List Addr}, Lst (RepT K F W H σ) xs ys f → (∀ x ∈ ys, x.noLz = true) → Lst (RepT K F W H (σ.set i (some v))) xs ys f := by
    intro xs ys f hh
    induction hh with
    | nil => intro _; exact .nil
    | cons k1 _ q ih => intro hn; exact .cons (k1.sig (hn _ List.mem_cons_self)) (ih fun x hx => hn x (List.mem_cons_of_mem _ hx)) q
  cases h1 with
  | cons j1 j2 q0 =>
    rename_i a1 a2
    cases hρ : ρ[i]? with
    | none =>
      have hl := h2.len
      have hi' : ρ.length ≤ i := List.getElem?_eq_none_iff.mp hρ
      rw [List.set_eq_of_length_le hi', List.set_eq_of_length_le (by omega)]
      exact h.drop
    | some y =>
      obtain ⟨x, g1, g2, e1, e2, q, k⟩ := h2.focus hρ
      have r2 := k (RepS K F W H) (some v) (some t) a1 (fun x y g hp hs => hp) (.som (j1.real ht))
      have pm : (a2 ++ (a1 ++ g2)).Perm (a1 ++ (a2 ++ g2)) := by
        rw [← List.append_assoc, ← List.append_assoc]
        exact List.perm_append_comm.append_right g2
      have pq : (f1 ++ f2).Perm (a1 ++ (a2 ++ (g1 ++ g2))) := by
        refine ((q0.append_right f2).trans (q.append_left (a1 ++ a2))).trans ?_
        rw [List.append_assoc]
      have nd' := nodup_of_perm pq nd
      have sl : List.Sublist (a1 ++ (a2 ++ g2)) (a1 ++ (a2 ++ (g1 ++ g2))) := (((List.sublist_append_right g1 g2).append_left a2).append_left a1)
      refine ⟨⟨a2, a1 ++ g2, sig j2 hz, r2, nodup_of_perm pm.symm (nd'.sublist sl), (st.perm (.refl _) pq).less fun a ha => sl.subset (pm.mem_iff.mp ha)⟩, pr'⟩
/-- a slot is forgotten -/
theorem R.forget {i : Nat} (h : R K I c ρ tm σ vs F W H) : R K I c (ρ.set i none) tm σ vs F W H := by
  obtain ⟨f1, f2, h1, h2, nd, st⟩ := h.ex
  cases hρ : ρ[i]? with
  | none => rw [List.set_eq_of_length_le (List.getElem?_eq_none_iff.mp hρ)]; exact h
  | some y =>
    obtain ⟨x, g1, g2, e1, e2, q, k⟩ := h2.focus hρ
    have r2 := k (RepS K F W H) x none [] (fun x y g hp hs => hp) .non
    have es : σ.set i x = σ := by
      obtain ⟨hi1, hi2⟩ := List.getElem?_eq_some_iff.mp e1
      rw [← hi2]
      exact List.set_getElem_self hi1
    rw [es] at r2
    have sl : List.Sublist (f1 ++ ([] ++ g2)) (f1 ++ (g1 ++ g2)) := (List.sublist_append_right g1 g2).append_left f1
    have pm := q.append_left f1
    exact ⟨⟨f1, _, h1, r2, (nodup_of_perm pm nd).sublist sl, (st.perm (.refl _) pm).less fun a ha => sl.subset ha⟩, h.pr⟩
end
end Hz
/-! Hz3: what an expression does, by trees: names, constants, operators, displays, parts. -/
namespace Hz
open PySem L2
/-- an invariant is to be given -/
inductive Inv1 {α : Type} (p : α → Prop) : Prop
  | mk (w : α) (h : p w) : Inv1 p
/-- a place to stop at -/
inductive Stop (p : Prop) : Prop
  | mk (h : p) : Stop p
abbrev WX := Addr → T → Rho → Prop
abbrev WE := Rho → WX → (T → Rho → Prop) → Prop
abbrev WT := Rho → WX → (Bool → Rho → Prop) → Prop
abbrev WA := Rho → WX → (List T → Rho → Prop) → Prop

/-! ### a value at hand, looked at, opened, closed -/
def T.peek : T → Rho → Option T
  | .lz j, ρ => (ρ[j]?).join
  | .bor _ _ _ s, _ => some s
  | t, _ => some t
def putAt (ρ : Rho) (j : Nat) (p : List Stp) (v : V) (s : T) : Rho :=
  match (ρ[j]?).join with
  | some t => match t.get p with
    | some (.cst u) => if u = v then ρ.set j (some (t.put p s)) else ρ
    | _ => ρ
  | none => ρ
def T.drop : T → Rho → Rho
  | .bor j p v s, ρ => putAt ρ j p v s
  | _, ρ => ρ
def T.opn : T → Rho → Option (T × Rho)
  | .lz j, ρ => (ρ[j]?).join.map fun s => (s, ρ.set j none)
  | .bor _ _ _ s, ρ => some (s, ρ)
  | t, ρ => some (t, ρ)
/-- a value goes back where it came from: its tree is s now -/
def T.cls : T → T → Rho → Rho
  | .lz j, s, ρ => ρ.set j (some s)
  | .bor j p v _, s, ρ => putAt ρ j p v s
  | _, _, ρ => ρ
/-- where a value at hand came from -/
def Orig (σ : L2.St) (t : T) (v : V) : Prop :=
  match t with
  | .lz j => σ[j]? = some (some v)
  | .bor _ _ u _ => u = v
  | _ => True
mutual
def T.py : T → Option PyData
  | .dat d => some d
  | .lst ts => (T.pys ts).map .list
  | .tup ts => (T.pys ts).map .tuple
  | _ => none
def T.pys : List T → Option (List PyData)
  | [] => some []
  | t :: ts => match t.py, T.pys ts with
    | some d, some ds => some (d :: ds)
    | _, _ => none
end
section
variable {K : PySem.W.Frag} {F F' : Hp} {W W' : List Addr} {H H' : Hp}
theorem rep_real {t : T} {v : V} {f : List Addr} (h : Rep K F W H v t f) : t.real = true := by
  cases h <;> rfl
mutual
/-- an owned tree as data, in any heap that has it -/
theorem rep_py (eF : Sub F F') : ∀ (t : T) (v : V) (fp : List Addr) (d : PyData), Rep K F W H v t fp → (∀ a ∈ fp, ∀ o, H a = some o → F' a = some o) → t.py = some d → Dp K F' v d
  | .dat d, v, fp, e, h, k, hp => by
    cases hp
    cases h with
    | dat h => exact dp_sub eF _ _ h
  | .cst u, v, fp, e, h, k, hp => by cases hp
  | .well, v, fp, e, h, k, hp => by cases hp
  | .lst ts, v, fp, e, h, k, hp => by
    have hp' : (T.pys ts).map PyData.list = some e := hp
    cases hq : T.pys ts with
    | none => rw [hq] at hp'; cases hp'
    | some ds =>
      rw [hq] at hp'
      cases hp'
      cases h with
      | lst h1 h2 p => exact .lst (.inl (.inl (k _ (p.mem_iff.mpr List.mem_cons_self) _ h1))) (repA_py eF ts _ _ ds h2 (fun a ha => k a (p.mem_iff.mpr (List.mem_cons_of_mem _ ha))) hq)
  | .tup ts, v, fp, e, h, k, hp => by
    have hp' : (T.pys ts).map PyData.tuple = some e := hp
    cases hq : T.pys ts with
    | none => rw [hq] at hp'; cases hp'
    | some ds =>
      rw [hq] at hp'
      cases hp'
      cases h with
      | tup h1 h2 p => exact .tup (.inl (.inl (k _ (p.mem_iff.mpr List.mem_cons_self) _ h1))) (repA_py eF ts _ _ ds h2 (fun a ha => k a (p.mem_iff.mpr (List.mem_cons_of_mem _ ha))) hq)
  | .dic ks ts, v, fp, e, h, k, hp => by cases hp
  | .ins C ns ts, v, fp, e, h, k, hp => by cases hp
  | .lz j, v, fp, e, h, k, hp => by cases hp
  | .bor j p u t, v, fp, e, h, k, hp => by cases hp
theorem repA_py (eF : Sub F F') : ∀ (ts : List T) (vs : List V) (fp : List Addr) (ds : List PyData), RepA K F W H vs ts fp → (∀ a ∈ fp, ∀ o, H a = some o → F' a = some o) → T.pys ts = some ds → DpAll K F' vs ds
  | [], vs, fp, ds, h, k, hp => by
    cases hp
    cases h
    exact .nil
  | t :: ts, vs, fp, ds, h, k, hp => by
    have hp' : (match t.py, T.pys ts with | some d, some ds => some (d :: ds) | _, _ => none) = some ds := hp
    cases h with
    | cons h1 h2 p =>
      cases e1 : t.py with
      | none => rw [e1] at hp'; cases hp'
      | some d =>
        cases e2 : T.pys ts with
        | none => rw [e1, e2] at hp'; cases hp'
        | some dr =>
          rw [e1, e2] at hp'
          cases hp'
          exact .cons (rep_py eF t _ _ d h1 (fun a ha => k a (p.mem_iff.mpr (List.mem_append_left _ ha))) e1) (repA_py eF ts _ _ dr h2 (fun a ha => k a (p.mem_iff.mpr (List.mem_append_right _ ha))) e2)
end
end
/-- a heap to which the objects at fp are added -/
def joinF (F H : Hp) (fp : List Addr) : Hp := fun a => if a ∈ fp then H a else F a
section
variable {K : PySem.W.Frag} {I : Sg} {c : Ct} {ρ ρ' : Rho} {t s : T} {tm ts : List T} {σ : L2.St} {v : V} {vs us : List V} {F : Hp} {W : List Addr} {H : Hp} {fp : List Addr}
theorem joinF_sub {I : HO → Prop} (w : Wf I F W H fp) : Sub F (joinF F H fp) := fun a o e => by
  unfold joinF
  by_cases h : a ∈ fp
  · rw [(w.own a h).1] at e
    cases e
  · rw [if_neg h]; exact e
theorem joinF_in {a : Addr} (h : a ∈ fp) : joinF F H fp a = H a := by unfold joinF; rw [if_pos h]
/-- what was owned is data from now on -/
theorem Step.join {I : HO → Prop} (w : Wf I F W H fp) : Step I F W H fp (joinF F H fp) W H [] := by
  refine ⟨⟨fun a o e => ?_, fun a ha => (nomatch ha), fun x hx => ⟨?_, (w.wel x hx).2⟩⟩, joinF_sub w, fun _ h => h, fun _ _ h _ _ => h, fun _ h => h, fun a ha => (nomatch ha), fun a ha => ?_, fun _ h => .inl h⟩
  · unfold joinF at e
    by_cases h : a ∈ fp
    · rw [if_pos h] at e; exact e
    · rw [if_neg h] at e; exact w.sub a o e
  · unfold joinF
    by_cases h : x ∈ fp
    · exact absurd hx (w.own x h).2.1
    · rw [if_neg h]; exact (w.wel x hx).1
  · by_cases h : a ∈ fp
    · exact .inr (.inl h)
    · unfold joinF at ha
      rw [if_neg h] at ha
      exact .inl ha
theorem R.freeze {d : PyData} (h : R K I c ρ (t :: tm) σ (v :: vs) F W H) (ht : t.py = some d) : ∃ F', Sub F F' ∧ R K I c ρ (.dat d :: tm) σ (v :: vs) F' W H := by
  obtain ⟨fA, hA, nd, wf, k⟩ := h.loc (ts := [t]) (us := [v]) rfl
  have hr : t.real = true := by cases t <;> first | rfl | cases ht
  cases hA with
  | cons h1 h2 p =>
    cases h2
    rw [List.append_nil] at p
    have h1' := (h1.real hr).perm p.symm
    exact ⟨joinF F H fA, joinF_sub wf, k (us' := [v]) (ts' := [.dat d]) (fB := []) (Step.join wf) .nil (.one (.of (.dat (rep_py (joinF_sub wf) t v fA d h1' (fun a ha o e => by rw [joinF_in ha]; exact e) ht))))⟩
theorem R.orig (h : R K I c ρ (t :: tm) σ (v :: vs) F W H) : Orig σ t v := by
  obtain ⟨fA, hA, _⟩ := h.loc (ts := [t]) (us := [v]) rfl
  cases hA with
  | cons h1 _ _ =>
    cases h1 with
    | of h =>
      have := rep_real h
      cases t <;> first | trivial | cases this
    | lz hh => exact hh
    | bor hh => exact rfl
theorem R.peek (h : R K I c ρ (t :: tm) σ (v :: vs) F W H) (hp : t.peek ρ = some s) : ∃ f, Rep K F W H v s f ∧ Wf I.inv F W H f := by
  obtain ⟨fA, hA, nd, wf, k⟩ := h.loc (ts := [t]) (us := [v]) rfl
  cases hA with
  | cons h1 h2 p =>
    cases h2
    rw [List.append_nil] at p
    cases h1 with
    | of h1 =>
      have hr := rep_real h1
      have e : t.peek ρ = some t := by cases t <;> first | rfl | cases hr
      rw [e] at hp
      cases hp
      exact ⟨_, h1.perm p.symm, wf⟩
    | lz h1 =>
      rename_i j
      have e : (ρ[j]?).join = some s := hp
      have e' : ρ[j]? = some (some s) := by
        cases q : ρ[j]? with
        | none => rw [q] at e; cases e
        | some x => rw [q] at e; cases x with
          | none => cases e
          | some x => cases e; rfl
      obtain ⟨u, f, e1, e2, e3⟩ := h.slot e'
      rw [h1] at e1
      cases e1
      exact ⟨f, e2, e3⟩
    | bor h1 =>
      cases hp
      exact ⟨_, h1.perm p.symm, wf⟩
theorem R.unbor {j : Nat} {p : List Stp} {u : V} (h : R K I c ρ (.bor j p u s :: tm) σ (v :: vs) F W H) : R K I c ρ (s :: tm) σ (v :: vs) F W H := by
  obtain ⟨fA, hA, nd, wf, k⟩ := h.loc (ts := [.bor j p u s]) (us := [v]) rfl
  cases hA with
  | cons h1 h2 q =>
    cases h2
    cases h1 with
    | of h1 => cases h1
    | bor h1 => exact k (us' := [v]) (ts' := [s]) (Step.refl wf) nd (.cons (.of h1) .nil q)
theorem R.rebor {j : Nat} {p : List Stp} (h : R K I c ρ (s :: tm) σ (v :: vs) F W H) (hs : s.real = true) : R K I c ρ (.bor j p v s :: tm) σ (v :: vs) F W H := by
  obtain ⟨fA, hA, nd, wf, k⟩ := h.loc (ts := [s]) (us := [v]) rfl
  cases hA with
  | cons h1 h2 q =>
    cases h2
    exact k (us' := [v]) (ts' := [.bor j p v s]) (Step.refl wf) nd (.cons (.bor (h1.real hs)) .nil q)
theorem R.putAt {j : Nat} {p : List Stp} (h : R K I c ρ (s :: tm) σ (v :: vs) F W H) (hs : s.real = true) : R K I c (putAt ρ j p v s) tm σ vs F W H := by
  unfold Hz.putAt
  cases q : (ρ[j]?).join with
  | none => exact h.drop
  | some t =>
    have e' : ρ[j]? = some (some t) := by
      cases q2 : ρ[j]? with
      | none => rw [q2] at q; cases q
      | some x => rw [q2] at q; cases x with
        | none => cases q
        | some x => cases q; rfl
    show R K I c (match t.get p with | some (.cst u) => if u = v then ρ.set j (some (t.put p s)) else ρ | _ => ρ) tm σ vs F W H
    cases hg : t.get p with
    | none => exact h.drop
    | some x =>
      cases x with
      | cst u =>
        show R K I c (if u = v then ρ.set j (some (t.put p s)) else ρ) tm σ vs F W H
        by_cases hu : u = v
        · rw [if_pos hu]
          exact h.put hs e' (by rw [hg, hu])
        · rw [if_neg hu]
          exact h.drop
      | _ => exact h.drop
theorem R.dropT (h : R K I c ρ (t :: tm) σ (v :: vs) F W H) : R K I c (t.drop ρ) tm σ vs F W H := by
  cases t with
  | bor j p u s =>
    have e : u = v := h.orig
    subst e
    obtain ⟨f, hr, _⟩ := h.peek (s := s) rfl
    exact h.unbor.putAt (rep_real hr)
  | _ => exact h.drop
/-- a slot gets a tree of the value that it has -/
theorem R.fill {j : Nat} (h : R K I c ρ (t :: tm) σ (v :: vs) F W H) (ht : t.real = true) (hj : σ[j]? = some (some v)) : R K I c (ρ.set j (some t)) tm σ vs F W H := by
  obtain ⟨f1, f2, h1, h2, nd, st⟩ := h.ex
  cases h1 with
  | cons j1 j2 q0 =>
    rename_i a1 a2
    cases hρ : ρ[j]? with
    | none => rw [List.set_eq_of_length_le (List.getElem?_eq_none_iff.mp hρ)]; exact h.drop
    | some y =>
      obtain ⟨x, g1, g2, e1, e2, q, k⟩ := h2.focus hρ
      have r2 := k (RepS K F W H) (some v) (some t) a1 (fun x y g hp hs => hp) (.som (j1.real ht))
      have es : σ.set j (some v) = σ := by
        obtain ⟨hi1, hi2⟩ := List.getElem?_eq_some_iff.mp hj
        rw [← hi2]
        exact List.set_getElem_self hi1
      rw [es] at r2
      have pm : (a2 ++ (a1 ++ g2)).Perm (a1 ++ (a2 ++ g2)) := by
        rw [← List.append_assoc, ← List.append_assoc]
        exact List.perm_append_comm.append_right g2
      have pq : (f1 ++ f2).Perm (a1 ++ (a2 ++ (g1 ++ g2))) := by
        refine ((q0.append_right f2).trans (q.append_left (a1 ++ a2))).trans ?_
        rw [List.append_assoc]
      have nd' := nodup_of_perm pq nd
      have sl : List.Sublist (a1 ++ (a2 ++ g2)) (a1 ++ (a2 ++ (g1 ++ g2))) := (((List.sublist_append_right g1 g2).append_left a2).append_left a1)
      exact ⟨⟨a2, a1 ++ g2, j2, r2, nodup_of_perm pm.symm (nd'.sublist sl), (st.perm (.refl _) pq).less fun a ha => sl.subset (pm.mem_iff.mp ha)⟩, h.pr⟩
theorem join_some {α : Type} {x : Option (Option α)} {a : α} (h : x.join = some a) : x = some (some a) := by
  cases x with
  | none => cases h
  | some x => cases x with
    | none => cases h
    | some x => cases h; rfl
theorem R.opn (h : R K I c ρ (t :: tm) σ (v :: vs) F W H) (ho : t.opn ρ = some (s, ρ')) : R K I c ρ' (s :: tm) σ (v :: vs) F W H ∧ s.real = true := by
  obtain ⟨f0, hr0, _⟩ := h.peek (s := s) (by
    cases t with
    | lz j =>
      have ho' : (ρ[j]?).join.map (fun s => (s, ρ.set j none)) = some (s, ρ') := ho
      cases q : (ρ[j]?).join with
      | none => rw [q] at ho'; cases ho'
      | some x => rw [q] at ho'; cases ho'; exact q
    | _ => cases ho; rfl)
  refine ⟨?_, rep_real hr0⟩
  cases t with
  | lz j =>
    have ho' : (ρ[j]?).join.map (fun s => (s, ρ.set j none)) = some (s, ρ') := ho
    cases q : (ρ[j]?).join with
    | none => rw [q] at ho'; cases ho'
    | some x =>
      rw [q] at ho'
      cases ho'
      obtain ⟨u, k, hu⟩ := h.drop.take (join_some q) (p := []) rfl
      have e1 : σ[j]? = some (some v) := h.orig
      have e2 := hu rfl
      rw [e1] at e2
      cases e2
      have k2 := k.forget (i := j)
      rw [List.set_set] at k2
      exact k2
  | bor j p u x =>
    cases ho
    exact h.unbor
  | _ => cases ho; exact h
theorem R.clsT (h : R K I c ρ (s :: tm) σ (v :: vs) F W H) (hs : s.real = true) (ho : Orig σ t v) : R K I c (t.cls s ρ) tm σ vs F W H := by
  cases t with
  | lz j => exact h.fill hs ho
  | bor j p u x =>
    have e : u = v := ho
    subst e
    exact h.putAt hs
  | _ => exact h.drop
end

/-! ### the judgement -/
def XOk (K : PySem.W.Frag) (I : Sg) (c : Ct) (E : XK) (Qx : WX) : Prop :=
  ∀ C t ρ σ v d F W H, R K I c ρ [t] σ [v] F W H → t.real = true → H d = some (.xd [("value", v)]) → Qx C t ρ → E (.ref C) (some d) H
def EvW (K : PySem.W.Frag) (I : Sg) (E : XK) (te : TE) (we : WE) : Prop :=
  ∀ c ρ tm σ vs F W H, R K I c ρ tm σ vs F W H → ∀ Qx Qv, XOk K I c E Qx → we ρ Qx Qv →
    ∀ Q : VK, (∀ t ρ' v F' W' H', R K I c ρ' (t :: tm) σ (v :: vs) F' W' H' → Qv t ρ' → Q v H') → te σ H Q
def EvT (K : PySem.W.Frag) (I : Sg) (E : XK) (tt : TT) (wt : WT) : Prop :=
  ∀ c ρ tm σ vs F W H, R K I c ρ tm σ vs F W H → ∀ Qx Qv, XOk K I c E Qx → wt ρ Qx Qv →
    ∀ Q : Bool → Hp → Prop, (∀ b ρ' F' W' H', R K I c ρ' tm σ vs F' W' H' → Qv b ρ' → Q b H') → tt σ H Q
def EvA (K : PySem.W.Frag) (I : Sg) (E : XK) (ta : TA) (wa : WA) : Prop :=
  ∀ c ρ tm σ vs F W H, R K I c ρ tm σ vs F W H → ∀ Qx Qv, XOk K I c E Qx → wa ρ Qx Qv →
    ∀ Q : List V → Hp → Prop, (∀ ts us ρ' F' W' H', R K I c ρ' (ts ++ tm) σ (us ++ vs) F' W' H' → us.length = ts.length → Qv ts ρ' → Q us H') → ta σ H Q

/-! ### combinators by trees -/
abbrev tI (i : Int) : T := .dat (.int i)
abbrev tBo (b : Bool) : T := .dat (.bool b)
abbrev tN : T := .dat .none
def wC (d : PyData) : WE := fun ρ _ Q => Q (.dat d) ρ
def wCst (v : V) : WE := fun ρ _ Q => Q (.cst v) ρ
def wVar (i : Nat) : WE := fun ρ _ Q => match ρ[i]? with
  | some (some (.dat d)) => Q (.dat d) ρ
  | some (some (.cst v)) => Q (.cst v) ρ
  | some (some .well) => Q .well ρ
  | some (some _) => Q (.lz i) ρ
  | _ => False
/-- an owned value is moved out -/
def wMv (we : WE) : WE := fun ρ Qx Q => we ρ Qx fun t ρ1 => ∃ s ρ2, t.opn ρ1 = some (s, ρ2) ∧ Q s ρ2
/-- .. and is data from now on -/
def wFz (we : WE) : WE := fun ρ Qx Q => we ρ Qx fun t ρ1 => ∃ s ρ2 d, t.opn ρ1 = some (s, ρ2) ∧ s.py = some d ∧ Q (.dat d) ρ2
def wII (C : Int → Int → Prop) (g : Int → Int → PyData) (a b : WE) : WE := fun ρ Qx Q => a ρ Qx fun ta ρ1 => b ρ1 Qx fun tb ρ2 => ∃ i j, ta = tI i ∧ tb = tI j ∧ C i j ∧ Q (.dat (g i j)) ρ2
def wII0 (g : Int → Int → PyData) (a b : WE) : WE := fun ρ Qx Q => a ρ Qx fun ta ρ1 => b ρ1 Qx fun tb ρ2 => ∃ i j, ta = tI i ∧ tb = tI j ∧ Q (.dat (g i j)) ρ2
def wU (g : Int → PyData) (a : WE) : WE := fun ρ Qx Q => a ρ Qx fun ta ρ1 => ∃ i, ta = tI i ∧ Q (.dat (g i)) ρ1
def T.isNon : T → Bool
  | .dat .none => true
  | .cst v => decide (v = .non)
  | _ => false
def wIsN (neg : Bool) (a : WE) : WE := fun ρ Qx Q => a ρ Qx fun ta ρ1 => ∃ s, ta.peek ρ1 = some s ∧ Q (tBo (if neg then !s.isNon else s.isNon)) (ta.drop ρ1)
def wAnd (a b : WE) : WE := fun ρ Qx Q => a ρ Qx fun ta ρ1 => ∃ k, ta = tBo k ∧ if k = true then b ρ1 Qx Q else Q (tBo false) ρ1
def wOr (a b : WE) : WE := fun ρ Qx Q => a ρ Qx fun ta ρ1 => ∃ k, ta = tBo k ∧ if k = true then Q (tBo true) ρ1 else b ρ1 Qx Q
def wNot (a : WE) : WE := fun ρ Qx Q => a ρ Qx fun ta ρ1 => ∃ k, ta = tBo k ∧ Q (tBo (!k)) ρ1
def wIf (c : WT) (a b : WE) : WE := fun ρ Qx Q => c ρ Qx fun k ρ1 => if k = true then a ρ1 Qx Q else b ρ1 Qx Q
def bT (a : WE) : WT := fun ρ Qx Q => a ρ Qx fun ta ρ1 => ∃ k, ta = tBo k ∧ Q k ρ1
def bAnd (a b : WT) : WT := fun ρ Qx Q => a ρ Qx fun k ρ1 => if k = true then b ρ1 Qx Q else Q false ρ1
def bOr (a b : WT) : WT := fun ρ Qx Q => a ρ Qx fun k ρ1 => if k = true then Q true ρ1 else b ρ1 Qx Q
def bNot (a : WT) : WT := fun ρ Qx Q => a ρ Qx fun k ρ1 => Q (!k) ρ1
def wEq (neg : Bool) (a b : WE) : WE := fun ρ Qx Q => a ρ Qx fun ta ρ1 => b ρ1 Qx fun tb ρ2 => ∃ s1 s2 d1 d2, ta.peek ρ2 = some s1 ∧ tb.peek ρ2 = some s2 ∧ s1.py = some d1 ∧ s2.py = some d2 ∧
  SeqAt.shaped d1 = true ∧ SeqAt.shaped d2 = true ∧ Q (tBo (if neg then !PyData.eqv d1 d2 else PyData.eqv d1 d2)) (ta.drop (tb.drop ρ2))
def aNil : WA := fun ρ _ Q => Q [] ρ
def aCons (a : WE) (r : WA) : WA := fun ρ Qx Q => a ρ Qx fun t ρ1 => r ρ1 Qx fun ts ρ2 => Q (t :: ts) ρ2
def wTup (as : WA) : WE := fun ρ Qx Q => as ρ Qx fun ts ρ1 => ∃ ds, T.pys ts = some ds ∧ ds.length ≤ 1000000 ∧ Q (.dat (.tuple ds)) ρ1
def wTupO (as : WA) : WE := fun ρ Qx Q => as ρ Qx fun ts ρ1 => ts.all T.real = true ∧ ts.length ≤ 1000000 ∧ Q (.tup ts) ρ1
def wLst (as : WA) : WE := fun ρ Qx Q => as ρ Qx fun ts ρ1 => ts.all T.real = true ∧ ts.length ≤ 1000000 ∧ Q (.lst ts) ρ1

section
variable {K : PySem.W.Frag} {I : Sg} {E : XK} {te ta tb tc : TE} {we wa wb : WE} {tt tu : TT} {wt wu : WT} {tl : TA} {wl : WA}
theorem ev_c {v : V} {d : PyData} (h : ∀ F, Dp K F v d) : EvW K I E (tC v) (wC d) := fun c ρ tm σ vs F W H r Qx Qv hx hw Q k => k _ _ _ _ _ _ (r.dat (h F)) hw
theorem ev_int {i : Int} : EvW K I E (tC (.int i)) (wC (.int i)) := ev_c fun _ => .int i
theorem ev_bl {b : Bool} : EvW K I E (tC (.bl b)) (wC (.bool b)) := ev_c fun _ => .bl b
theorem ev_str {x : Str} : EvW K I E (tC (.str x)) (wC (.str x)) := ev_c fun _ => .str x
theorem ev_non : EvW K I E (tC .non) (wC .none) := ev_c fun _ => .non
theorem ev_cst {v : V} : EvW K I E (tC v) (wCst v) := fun c ρ tm σ vs F W H r Qx Qv hx hw Q k => k _ _ _ _ _ _ r.cst hw
theorem ev_var {i : Nat} : EvW K I E (tVar i) (wVar i) := fun c ρ tm σ vs F W H r Qx Qv hx hw Q k => by
  unfold wVar at hw
  cases hρ : ρ[i]? with
  | none => rw [hρ] at hw; exact hw.elim
  | some o =>
    cases o with
    | none => rw [hρ] at hw; exact hw.elim
    | some t =>
      obtain ⟨u, f, e1, e2, _⟩ := r.slot hρ
      rw [hρ] at hw
      refine ⟨u, e1, ?_⟩
      cases t with
      | dat d =>
        cases e2 with
        | dat e2 => exact k _ _ _ _ _ _ (r.dat e2) hw
      | cst v =>
        cases e2
        exact k _ _ _ _ _ _ r.cst hw
      | well =>
        cases e2 with
        | well e2 => exact k _ _ _ _ _ _ (r.well e2) hw
      | _ => exact k _ _ _ _ _ _ (r.lz e1) hw
theorem ev_mv (h : EvW K I E te we) : EvW K I E te (wMv we) := fun c ρ tm σ vs F W H r Qx Qv hx hw Q k =>
  h c ρ tm σ vs F W H r Qx _ hx hw Q fun t ρ' v F' W' H' r' ⟨s, ρ2, ho, q⟩ => k _ _ _ _ _ _ (r'.opn ho).1 q
theorem ev_fz (h : EvW K I E te we) : EvW K I E te (wFz we) := fun c ρ tm σ vs F W H r Qx Qv hx hw Q k =>
  h c ρ tm σ vs F W H r Qx _ hx hw Q fun t ρ' v F' W' H' r' ⟨s, ρ2, d, ho, hp, q⟩ => by
    obtain ⟨F2, _, r2⟩ := (r'.opn ho).1.freeze hp
    exact k _ _ _ _ _ _ r2 q
theorem ev_II {C : Int → Int → Prop} {f : Int → Int → V} {g : Int → Int → PyData} (hf : ∀ i j F, Dp K F (f i j) (g i j)) (ha : EvW K I E ta wa) (hb : EvW K I E tb wb) : EvW K I E (tOp (rI C f) ta tb) (wII C g wa wb) :=
  fun c ρ tm σ vs F W H r Qx Qv hx hw Q k => ha c ρ tm σ vs F W H r Qx _ hx hw _ fun t ρ' v F' W' H' r' hw' => hb c ρ' (t :: tm) σ (v :: vs) F' W' H' r' Qx _ hx hw' _ fun t2 ρ2 v2 F2 W2 H2 r2 ⟨i, j, e1, e2, hc, q⟩ => by
    subst e1; subst e2
    have d2 := r2.topDat
    have d1 := r2.drop.topDat
    cases d1
    cases d2
    exact ⟨i, j, rfl, rfl, hc, k _ _ _ _ _ _ (r2.drop.drop.dat (hf i j F2)) q⟩
theorem ev_II0 {f : Int → Int → V} {g : Int → Int → PyData} (hf : ∀ i j F, Dp K F (f i j) (g i j)) (ha : EvW K I E ta wa) (hb : EvW K I E tb wb) : EvW K I E (tOp (rI0 f) ta tb) (wII0 g wa wb) :=
  fun c ρ tm σ vs F W H r Qx Qv hx hw Q k => ha c ρ tm σ vs F W H r Qx _ hx hw _ fun t ρ' v F' W' H' r' hw' => hb c ρ' (t :: tm) σ (v :: vs) F' W' H' r' Qx _ hx hw' _ fun t2 ρ2 v2 F2 W2 H2 r2 ⟨i, j, e1, e2, q⟩ => by
    subst e1; subst e2
    have d2 := r2.topDat
    have d1 := r2.drop.topDat
    cases d1
    cases d2
    exact ⟨i, j, rfl, rfl, k _ _ _ _ _ _ (r2.drop.drop.dat (hf i j F2)) q⟩
theorem ev_U {f : Int → V} {g : Int → PyData} (hf : ∀ i F, Dp K F (f i) (g i)) (ha : EvW K I E ta wa) : EvW K I E (tUn (rU f) ta) (wU g wa) :=
  fun c ρ tm σ vs F W H r Qx Qv hx hw Q k => ha c ρ tm σ vs F W H r Qx _ hx hw _ fun t ρ' v F' W' H' r' ⟨i, e, q⟩ => by
    subst e
    have d := r'.topDat
    cases d
    exact ⟨i, rfl, k _ _ _ _ _ _ (r'.drop.dat (hf i F')) q⟩
theorem isN_of {F W H} {v : V} {s : T} {f : List Addr} (hr : Rep K F W H v s f) : decide (v = .non) = s.isNon := by
  cases hr with
  | dat h => cases h <;> rfl
  | cst => rfl
  | _ => rfl
theorem ev_isN (ha : EvW K I E ta wa) : EvW K I E (tIsN ta) (wIsN false wa) :=
  fun c ρ tm σ vs F W H r Qx Qv hx hw Q k => ha c ρ tm σ vs F W H r Qx _ hx hw _ fun t ρ' v F' W' H' r' ⟨s, e, q⟩ => by
    obtain ⟨f, hr, _⟩ := r'.peek e
    show Q (.bl (decide (v = .non))) H'
    rw [isN_of hr]
    exact k _ _ _ _ _ _ (r'.dropT.dat (.bl s.isNon)) q
theorem ev_notN (ha : EvW K I E ta wa) : EvW K I E (tNotN ta) (wIsN true wa) :=
  fun c ρ tm σ vs F W H r Qx Qv hx hw Q k => ha c ρ tm σ vs F W H r Qx _ hx hw _ fun t ρ' v F' W' H' r' ⟨s, e, q⟩ => by
    obtain ⟨f, hr, _⟩ := r'.peek e
    show Q (.bl (!decide (v = .non))) H'
    rw [isN_of hr]
    exact k _ _ _ _ _ _ (r'.dropT.dat (.bl (!s.isNon))) q
theorem ev_and (ha : EvW K I E ta wa) (hb : EvW K I E tb wb) : EvW K I E (tAndV ta tb) (wAnd wa wb) :=
  fun c ρ tm σ vs F W H r Qx Qv hx hw Q k => ha c ρ tm σ vs F W H r Qx _ hx hw _ fun t ρ' v F' W' H' r' ⟨b, e, q⟩ => by
    subst e
    have d := r'.topDat
    cases d
    refine ⟨b, rfl, ?_⟩
    cases b with
    | true => exact hb c ρ' tm σ vs F' W' H' r'.drop Qx Qv hx q Q k
    | false => exact k _ _ _ _ _ _ (r'.drop.dat (.bl false)) q
theorem ev_or (ha : EvW K I E ta wa) (hb : EvW K I E tb wb) : EvW K I E (tOrV ta tb) (wOr wa wb) :=
  fun c ρ tm σ vs F W H r Qx Qv hx hw Q k => ha c ρ tm σ vs F W H r Qx _ hx hw _ fun t ρ' v F' W' H' r' ⟨b, e, q⟩ => by
    subst e
    have d := r'.topDat
    cases d
    refine ⟨b, rfl, ?_⟩
    cases b with
    | false => exact hb c ρ' tm σ vs F' W' H' r'.drop Qx Qv hx q Q k
    | true => exact k _ _ _ _ _ _ (r'.drop.dat (.bl true)) q
theorem ev_not (ha : EvW K I E ta wa) : EvW K I E (tNotV ta) (wNot wa) :=
  fun c ρ tm σ vs F W H r Qx Qv hx hw Q k => ha c ρ tm σ vs F W H r Qx _ hx hw _ fun t ρ' v F' W' H' r' ⟨b, e, q⟩ => by
    subst e
    have d := r'.topDat
    cases d
    exact ⟨b, rfl, k _ _ _ _ _ _ (r'.drop.dat (.bl (!b))) q⟩
theorem ev_if (hc : EvT K I E tt wt) (ha : EvW K I E ta wa) (hb : EvW K I E tb wb) : EvW K I E (tIf tt ta tb) (wIf wt wa wb) :=
  fun c ρ tm σ vs F W H r Qx Qv hx hw Q k => hc c ρ tm σ vs F W H r Qx _ hx hw _ fun b ρ' F' W' H' r' q => by
    cases b with
    | true => exact ha c ρ' tm σ vs F' W' H' r' Qx Qv hx q Q k
    | false => exact hb c ρ' tm σ vs F' W' H' r' Qx Qv hx q Q k
theorem et_B (ha : EvW K I E ta wa) : EvT K I E (tB ta) (bT wa) :=
  fun c ρ tm σ vs F W H r Qx Qv hx hw Q k => ha c ρ tm σ vs F W H r Qx _ hx hw _ fun t ρ' v F' W' H' r' ⟨b, e, q⟩ => by
    subst e
    have d := r'.topDat
    cases d
    exact ⟨b, rfl, k _ _ _ _ _ r'.drop q⟩
theorem et_test (ha : EvW K I E ta wa) : EvT K I E (tTest ta) (bT wa) :=
  fun c ρ tm σ vs F W H r Qx Qv hx hw Q k => ha c ρ tm σ vs F W H r Qx _ hx hw _ fun t ρ' v F' W' H' r' ⟨b, e, q⟩ => by
    subst e
    have d := r'.topDat
    cases d
    exact ⟨b, rfl, k _ _ _ _ _ r'.drop q⟩
theorem et_and (ha : EvT K I E tt wt) (hb : EvT K I E tu wu) : EvT K I E (tAnd tt tu) (bAnd wt wu) :=
  fun c ρ tm σ vs F W H r Qx Qv hx hw Q k => ha c ρ tm σ vs F W H r Qx _ hx hw _ fun b ρ' F' W' H' r' q => by
    cases b with
    | true => exact hb c ρ' tm σ vs F' W' H' r' Qx Qv hx q Q k
    | false => exact k _ _ _ _ _ r' q
theorem et_or (ha : EvT K I E tt wt) (hb : EvT K I E tu wu) : EvT K I E (tOr tt tu) (bOr wt wu) :=
  fun c ρ tm σ vs F W H r Qx Qv hx hw Q k => ha c ρ tm σ vs F W H r Qx _ hx hw _ fun b ρ' F' W' H' r' q => by
    cases b with
    | false => exact hb c ρ' tm σ vs F' W' H' r' Qx Qv hx q Q k
    | true => exact k _ _ _ _ _ r' q
theorem et_not (ha : EvT K I E tt wt) : EvT K I E (tNot tt) (bNot wt) :=
  fun c ρ tm σ vs F W H r Qx Qv hx hw Q k => ha c ρ tm σ vs F W H r Qx _ hx hw _ fun b ρ' F' W' H' r' q => k _ _ _ _ _ r' q
theorem dp_of {F W H} {v : V} {s : T} {f : List Addr} {d : PyData} (hr : Rep K F W H v s f) (hs : Sub F H) (hp : s.py = some d) : Dp K H v d := rep_py hs s v f d hr (fun a _ o e => e) hp
theorem ev_eq (ha : EvW K I E ta wa) (hb : EvW K I E tb wb) : EvW K I E (tOp (rEqD K) ta tb) (wEq false wa wb) :=
  fun c ρ tm σ vs F W H r Qx Qv hx hw Q k => ha c ρ tm σ vs F W H r Qx _ hx hw _ fun t ρ' v F' W' H' r' hw' => hb c ρ' (t :: tm) σ (v :: vs) F' W' H' r' Qx _ hx hw' _ fun t2 ρ2 v2 F2 W2 H2 r2 ⟨s1, s2, d1, d2, e1, e2, p1, p2, z1, z2, q⟩ => by
    obtain ⟨f2, h2, _⟩ := r2.peek e2
    obtain ⟨f1, h1, _⟩ := r2.drop.peek e1
    exact ⟨d1, d2, dp_of h1 r2.sub p1, dp_of h2 r2.sub p2, z1, z2, k _ _ _ _ _ _ (r2.dropT.dropT.dat (.bl _)) q⟩
theorem ev_ne (ha : EvW K I E ta wa) (hb : EvW K I E tb wb) : EvW K I E (tOp (rNeD K) ta tb) (wEq true wa wb) :=
  fun c ρ tm σ vs F W H r Qx Qv hx hw Q k => ha c ρ tm σ vs F W H r Qx _ hx hw _ fun t ρ' v F' W' H' r' hw' => hb c ρ' (t :: tm) σ (v :: vs) F' W' H' r' Qx _ hx hw' _ fun t2 ρ2 v2 F2 W2 H2 r2 ⟨s1, s2, d1, d2, e1, e2, p1, p2, z1, z2, q⟩ => by
    obtain ⟨f2, h2, _⟩ := r2.peek e2
    obtain ⟨f1, h1, _⟩ := r2.drop.peek e1
    exact ⟨d1, d2, dp_of h1 r2.sub p1, dp_of h2 r2.sub p2, z1, z2, k _ _ _ _ _ _ (r2.dropT.dropT.dat (.bl _)) q⟩
theorem ea_nil : EvA K I E tNil aNil := fun c ρ tm σ vs F W H r Qx Qv hx hw Q k => k [] [] _ _ _ _ r rfl hw
theorem ea_cons (ha : EvW K I E ta wa) (hl : EvA K I E tl wl) : EvA K I E (tCons ta tl) (aCons wa wl) :=
  fun c ρ tm σ vs F W H r Qx Qv hx hw Q k => ha c ρ tm σ vs F W H r Qx _ hx hw _ fun t ρ' v F' W' H' r' hw' => hl c ρ' (t :: tm) σ (v :: vs) F' W' H' r' Qx _ hx hw' _ fun ts us ρ2 F2 W2 H2 r2 e q =>
    k (t :: ts) (v :: us) _ _ _ _ (r2.mid e) (by rw [List.length_cons, List.length_cons, e]) q
theorem lst_real {F W H} {σ : L2.St} : ∀ {us : List V} {ts : List T} {f : List Addr}, Lst (RepT K F W H σ) us ts f → ts.all T.real = true → RepA K F W H us ts f
  | _, _, _, .nil, _ => .nil
  | _, _, _, .cons h1 h2 p, h => by
    rw [List.all_cons, Bool.and_eq_true] at h
    exact .cons (h1.real h.1) (lst_real h2 h.2) p
theorem pys_real : ∀ {ts : List T} {ds : List PyData}, T.pys ts = some ds → ts.all T.real = true ∧ ts.length = ds.length
  | [], ds, h => by cases h; exact ⟨rfl, rfl⟩
  | t :: ts, ds, h => by
    have h' : (match t.py, T.pys ts with | some d, some ds => some (d :: ds) | _, _ => none) = some ds := h
    cases e1 : t.py with
    | none => rw [e1] at h'; cases h'
    | some d =>
      cases e2 : T.pys ts with
      | none => rw [e1, e2] at h'; cases h'
      | some dr =>
        rw [e1, e2] at h'
        cases h'
        obtain ⟨q1, q2⟩ := pys_real e2
        have hr : t.real = true := by cases t <;> first | rfl | cases e1
        exact ⟨by rw [List.all_cons, hr, q1]; rfl, by rw [List.length_cons, List.length_cons, q2]⟩
theorem line_of {n : Nat} (h : n ≤ 1000000) : n ≤ sizeLine := Nat.le_trans h (by rw [sizeLine_eq]; decide)
/-- a new object beside: what was used up is owned by it, or is data from now on -/
theorem Step.alloc {I : HO → Prop} {F : Hp} {W : List Addr} {H : Hp} {fp : List Addr} {p : Addr} {o : HO} (w : Wf I F W H fp) (hp : H p = none) : Step I F W H fp F W (upd H p o) (p :: fp) := by
  have hF : F p = none := by
    cases e : F p with
    | none => rfl
    | some x => rw [w.sub p x e] at hp; cases hp
  have np : ∀ a, H a ≠ none → a ≠ p := fun a ha e => ha (by rw [e]; exact hp)
  have hW : ∀ x ∈ W, x ≠ p := fun x hx => np x (by obtain ⟨_, o, e, _⟩ := w.wel x hx; rw [e]; exact Option.some_ne_none _)
  refine ⟨⟨w.sub.trans (.new hp), fun a ha => ?_, fun x hx => ⟨(w.wel x hx).1, ?_⟩⟩, .refl _, fun _ h => h, fun a q h _ _ => ?_, fun a h => ?_, fun a ha => ?_, fun _ h => .inl h, fun _ h => .inl h⟩
  · rcases List.mem_cons.mp ha with rfl | ha
    · exact ⟨hF, fun z => hW _ z rfl, by rw [upd_same]; exact Option.some_ne_none _⟩
    · obtain ⟨g1, g2, g3⟩ := w.own a ha
      exact ⟨g1, g2, by rw [upd_ne (np a g3)]; exact g3⟩
  · obtain ⟨_, o, e, hi⟩ := w.wel x hx
    exact ⟨o, by rw [upd_ne (hW x hx)]; exact e, hi⟩
  · rw [upd_ne (np a (by rw [h]; exact Option.some_ne_none _))]
    exact h
  · by_cases e : a = p
    · rw [e, upd_same]; exact Option.some_ne_none _
    · rw [upd_ne e]; exact h
  · rcases List.mem_cons.mp ha with rfl | ha
    · exact .inr hp
    · exact .inl ha
theorem R.newLst {c : Ct} {ρ : Rho} {ts tm : List T} {σ : L2.St} {us vs : List V} {F : Hp} {W : List Addr} {H : Hp} {p : Addr} (h : R K I c ρ (ts ++ tm) σ (us ++ vs) F W H) (hl : us.length = ts.length) (hr : ts.all T.real = true) (hp : H p = none) :
    R K I c ρ (.lst ts :: tm) σ (.ref p :: vs) F W (upd H p (.lst us)) := by
  obtain ⟨fA, hA, nd, wf, k⟩ := h.loc hl
  have st := Step.alloc (o := .lst us) wf hp
  have hpf : p ∉ fA := fun z => (wf.own p z).2.2 hp
  refine k (us' := [.ref p]) (ts' := [.lst ts]) st (List.nodup_cons.mpr ⟨hpf, nd⟩) (.one (.of (.lst upd_same ?_ (.refl _))))
  exact repA_keep (.refl _) (fun _ z => z) _ _ _ (lst_real hA hr) fun a ha => upd_ne fun e => hpf (e ▸ ha)
theorem R.newTup {c : Ct} {ρ : Rho} {ts tm : List T} {σ : L2.St} {us vs : List V} {F : Hp} {W : List Addr} {H : Hp} {p : Addr} (h : R K I c ρ (ts ++ tm) σ (us ++ vs) F W H) (hl : us.length = ts.length) (hr : ts.all T.real = true) (hp : H p = none) :
    R K I c ρ (.tup ts :: tm) σ (.ref p :: vs) F W (upd H p (.tup us)) := by
  obtain ⟨fA, hA, nd, wf, k⟩ := h.loc hl
  have st := Step.alloc (o := .tup us) wf hp
  have hpf : p ∉ fA := fun z => (wf.own p z).2.2 hp
  refine k (us' := [.ref p]) (ts' := [.tup ts]) st (List.nodup_cons.mpr ⟨hpf, nd⟩) (.one (.of (.tup upd_same ?_ (.refl _))))
  exact repA_keep (.refl _) (fun _ z => z) _ _ _ (lst_real hA hr) fun a ha => upd_ne fun e => hpf (e ▸ ha)
theorem ev_lst (hl : EvA K I E tl wl) : EvW K I E (tLst tl) (wLst wl) :=
  fun c ρ tm σ vs F W H r Qx Qv hx hw Q k => hl c ρ tm σ vs F W H r Qx _ hx hw _ fun ts us ρ2 F2 W2 H2 r2 e ⟨q1, q2, q3⟩ =>
    ⟨line_of (by rw [e]; exact q2), fun p hp => k _ _ _ _ _ _ (r2.newLst e q1 hp) q3⟩
theorem ev_tupO (hl : EvA K I E tl wl) : EvW K I E (tTup tl) (wTupO wl) :=
  fun c ρ tm σ vs F W H r Qx Qv hx hw Q k => hl c ρ tm σ vs F W H r Qx _ hx hw _ fun ts us ρ2 F2 W2 H2 r2 e ⟨q1, q2, q3⟩ =>
    ⟨line_of (by rw [e]; exact q2), fun p hp => k _ _ _ _ _ _ (r2.newTup e q1 hp) q3⟩
theorem ev_tup (hl : EvA K I E tl wl) : EvW K I E (tTup tl) (wTup wl) :=
  fun c ρ tm σ vs F W H r Qx Qv hx hw Q k => hl c ρ tm σ vs F W H r Qx _ hx hw _ fun ts us ρ2 F2 W2 H2 r2 e ⟨ds, q1, q2, q3⟩ => by
    obtain ⟨z1, z2⟩ := pys_real q1
    refine ⟨line_of (by rw [e, z2]; exact q2), fun p hp => ?_⟩
    obtain ⟨F3, _, r3⟩ := (r2.newTup e z1 hp).freeze (d := .tuple ds) (by show (T.pys ts).map PyData.tuple = _; rw [q1]; rfl)
    exact k _ _ _ _ _ _ r3 q3
end
end Hz
/-! Hz4: parts of what is at hand, sequences, fields; built-in calls; lists that are new. -/
namespace Hz
open PySem L2
def T.copy : T → Bool
  | .dat _ => true
  | .cst _ => true
  | .well => true
  | _ => false
/-- the items of a sequence; whether it is a list -/
def T.items : T → Option (List T)
  | .lst ts => some ts
  | .tup ts => some ts
  | .dat (.list ds) => some (ds.map .dat)
  | .dat (.tuple ds) => some (ds.map .dat)
  | _ => none
def T.isL : T → Bool
  | .lst _ => true
  | .dat (.list _) => true
  | _ => false
section
variable {K : PySem.W.Frag} {F F' : Hp} {W W' : List Addr} {H H' : Hp}
theorem rep_copy {v : V} {t : T} {f : List Addr} (h : Rep K F W H v t f) (ht : t.copy = true) (eF : Sub F F') (eW : ∀ w ∈ W, w ∈ W') : Rep K F' W' H' v t [] := by
  cases h with
  | dat h => exact .dat (dp_sub eF _ _ h)
  | cst => exact .cst
  | well h => exact .well (eW _ h)
  | _ => cases ht
theorem repA_copy (eF : Sub F F') (eW : ∀ w ∈ W, w ∈ W') : ∀ {ts : List T} {vs : List V} {f : List Addr}, RepA K F W H vs ts f → ts.all T.copy = true → RepA K F' W' H' vs ts []
  | [], vs, f, h, _ => by cases h; exact .nil
  | t :: ts, vs, f, h, hc => by
    rw [List.all_cons, Bool.and_eq_true] at hc
    cases h with
    | cons h1 h2 p => exact .cons (rep_copy h1 hc.1 eF eW) (repA_copy eF eW h2 hc.2) (.refl _)
theorem repA_dats : ∀ {ds : List PyData} {vs : List V}, DpAll K F vs ds → RepA K F W H vs (ds.map .dat) []
  | [], vs, h => by cases h; exact .nil
  | d :: ds, vs, h => by
    cases h with
    | cons h1 h2 => exact .cons (.dat h1) (repA_dats h2) (.refl _)
theorem repA_len : ∀ {ts : List T} {vs : List V} {f : List Addr}, RepA K F W H vs ts f → vs.length = ts.length := fun h => (repA_iff.mp h).len
/-- what a sequence's items say of the heap -/
theorem rep_seq {v : V} {s : T} {f : List Addr} {ts : List T} (h : Rep K F W H v s f) (hs : Sub F H) (hi : s.items = some ts) :
    ∃ a us g, v = .ref a ∧ RepA K F W H us ts g ∧ (∀ x ∈ g, x ∈ f) ∧ (s.isL = true → SqL K H a us) ∧ (s.isL = false → SqT K H a us) ∧ (s.copy = false → ∀ us', H a = some (.lst us') ∨ H a = some (.tup us') → us' = us) := by
  cases h with
  | dat h =>
    cases h with
    | lst h1 h2 =>
      cases hi
      exact ⟨_, _, [], rfl, repA_dats h2, fun _ z => (nomatch z), fun _ => sql_sub hs h1, fun z => (nomatch z), fun z => (nomatch z)⟩
    | tup h1 h2 =>
      cases hi
      exact ⟨_, _, [], rfl, repA_dats h2, fun _ z => (nomatch z), fun z => (nomatch z), fun _ => sqt_sub hs h1, fun z => (nomatch z)⟩
    | _ => cases hi
  | lst h1 h2 p =>
    cases hi
    exact ⟨_, _, _, rfl, h2, fun x z => p.mem_iff.mpr (List.mem_cons_of_mem _ z), fun _ => SqL.of h1, fun z => (nomatch z), fun _ us' ho => by
      rw [h1] at ho
      rcases ho with z | z <;> cases z
      rfl⟩
  | tup h1 h2 p =>
    cases hi
    exact ⟨_, _, _, rfl, h2, fun x z => p.mem_iff.mpr (List.mem_cons_of_mem _ z), fun z => (nomatch z), fun _ => SqT.of h1, fun _ us' ho => by
      rw [h1] at ho
      rcases ho with z | z <;> cases z
      rfl⟩
  | _ => cases hi
theorem repA_at : ∀ {ts : List T} {us : List V} {g : List Addr} {n : Nat} {c : T}, RepA K F W H us ts g → ts[n]? = some c → ∃ u f, us[n]? = some u ∧ Rep K F W H u c f := fun h hn => by
  obtain ⟨x, f1, f2, e1, e2, _, _⟩ := (repA_iff.mp h).focus hn
  exact ⟨x, f1, e1, e2⟩
end

/-! ### a part of what is at hand -/
/-- the part c at st of the value t is handed out -/
def give (t : T) (st : Stp) (c : T) (ρ : Rho) (Q : T → Rho → Prop) : Prop :=
  if c.copy = true then Q c (t.drop ρ) else match t with
    | .lz j => ∀ v, Q (.bor j [st] v c) (match (ρ[j]?).join with | some s => ρ.set j (some (s.putc st (.cst v))) | none => ρ)
    | .bor j p u s => ∀ v, Q (.bor j (p ++ [st]) v c) (putAt ρ j p u (s.putc st (.cst v)))
    | _ => Q c ρ
section
variable {K : PySem.W.Frag} {I : Sg} {c : Ct} {ρ ρ' : Rho} {t s k : T} {tm ts : List T} {σ : L2.St} {v u x : V} {vs us : List V} {F : Hp} {W : List Addr} {H : Hp} {st : Stp}
theorem R.dup (h : R K I c ρ tm σ vs F W H) {f : List Addr} (hr : Rep K F W H u k f) (hk : k.copy = true) : R K I c ρ (k :: tm) σ (u :: vs) F W H := by
  obtain ⟨fA, hA, nd, wf, q⟩ := R.loc (ts := []) (us := []) h rfl
  cases hA
  exact q (us' := [u]) (ts' := [k]) (fB := []) (Step.refl wf) .nil (.one (.of (rep_copy hr hk (.refl _) fun _ z => z)))
theorem putc_real : ∀ {t : T} {st : Stp} {c : T}, t.real = true → (t.putc st c).real = true
  | .dat _, st, c, _ => by cases st <;> rfl
  | .cst _, st, c, _ => by cases st <;> rfl
  | .well, st, c, _ => by cases st <;> rfl
  | .lst _, st, c, _ => by cases st <;> rfl
  | .tup _, st, c, _ => by cases st <;> rfl
  | .dic _ _, st, c, _ => by cases st <;> rfl
  | .ins _ _ _, st, c, _ => by cases st <;> rfl
  | .lz _, st, c, h => by cases h
  | .bor _ _ _ _, st, c, h => by cases h
theorem R.part (h : R K I c ρ (s :: tm) σ (x :: vs) F W H) (hs : s.real = true) (hc : s.child st = some k) :
    ∃ u, AtH H x st u ∧ R K I c ρ (k :: s.putc st (.cst u) :: tm) σ (u :: x :: vs) F W H := by
  obtain ⟨fA, hA, nd, wf, q⟩ := h.loc (ts := [s]) (us := [x]) rfl
  cases hA with
  | cons h1 h2 p =>
    cases h2
    obtain ⟨u, f1, f2, p1, hu, ha, hk⟩ := rep_child (h1.real hs) hc
    have r := hk F W H (.cst u) [] (.refl _) (fun _ z => z) (fun _ _ => rfl) .cst
    rw [List.append_nil] at p
    have pm := p.trans p1
    refine ⟨u, ha, q (us' := [u, x]) (ts' := [k, s.putc st (.cst u)]) (fB := f1 ++ ([] ++ f2)) ((Step.refl wf).perm (.refl _) pm) (nodup_of_perm pm nd) ?_⟩
    exact .cons (.of hu) (.one (.of r)) (.refl _)
theorem R.give {Q : T → Rho → Prop} (h : R K I c ρ (t :: tm) σ (x :: vs) F W H) (hp : t.peek ρ = some s) (hc : s.child st = some k) (hq : give t st k ρ Q) :
    ∃ u t' ρ', AtH H x st u ∧ R K I c ρ' (t' :: tm) σ (u :: vs) F W H ∧ Q t' ρ' := by
  unfold Hz.give at hq
  obtain ⟨f, hr, _⟩ := h.peek hp
  obtain ⟨u0, g1, g2, _, hu0, ha0, _⟩ := rep_child hr hc
  by_cases hk : k.copy = true
  · rw [if_pos hk] at hq
    exact ⟨u0, k, _, ha0, (h.dropT).dup hu0 hk, hq⟩
  · rw [if_neg hk] at hq
    have hs := rep_real hr
    have hkr := rep_real hu0
    cases t with
    | lz j =>
      have hj' : (ρ[j]?).join = some s := hp
      obtain ⟨r1, _⟩ := h.opn (s := s) (ρ' := ρ.set j none) (by show ((ρ[j]?).join.map fun s => (s, ρ.set j none)) = _; rw [hj']; rfl)
      obtain ⟨u, ha, r2⟩ := r1.part hs hc
      have r3 := (R.mid (ts := [k]) (us := [u]) r2 rfl).fill (putc_real hs) h.orig
      rw [List.set_set] at r3
      have q := hq u
      rw [hj'] at q
      exact ⟨u, _, _, ha, r3.rebor (j := j) (p := [st]) hkr, q⟩
    | bor j p w s' =>
      cases hp
      have e : w = x := h.orig
      subst e
      obtain ⟨u, ha, r2⟩ := h.unbor.part hs hc
      have r3 := (R.mid (ts := [k]) (us := [u]) r2 rfl).putAt (j := j) (p := p) (putc_real hs)
      exact ⟨u, _, _, ha, r3.rebor (j := j) (p := p ++ [st]) hkr, hq u⟩
    | _ =>
      cases hp
      obtain ⟨u, ha, r2⟩ := h.part hs hc
      exact ⟨u, _, _, ha, (R.mid (ts := [k]) (us := [u]) r2 rfl).drop, hq⟩
end
end Hz
/-! Hz5: operations by what they ask of trees; sequences, fields, calls of built-ins, lists that change. -/
namespace Hz
open PySem L2
abbrev S1 := T → Rho → (T → Rho → Prop) → Prop
abbrev S2 := T → T → Rho → (T → Rho → Prop) → Prop
def Op1 (K : PySem.W.Frag) (I : Sg) (r : V → Hp → VK → Prop) (sp : S1) : Prop :=
  ∀ c ρ t tm σ v vs F W H, R K I c ρ (t :: tm) σ (v :: vs) F W H → ∀ Qv, sp t ρ Qv → ∀ Q : VK, (∀ t' ρ' v' F' W' H', R K I c ρ' (t' :: tm) σ (v' :: vs) F' W' H' → Qv t' ρ' → Q v' H') → r v H Q
/-- the second value on top -/
def Op2 (K : PySem.W.Frag) (I : Sg) (r : V → V → Hp → VK → Prop) (sp : S2) : Prop :=
  ∀ c ρ t u tm σ v w vs F W H, R K I c ρ (u :: t :: tm) σ (w :: v :: vs) F W H → ∀ Qv, sp t u ρ Qv → ∀ Q : VK, (∀ t' ρ' v' F' W' H', R K I c ρ' (t' :: tm) σ (v' :: vs) F' W' H' → Qv t' ρ' → Q v' H') → r v w H Q
def w1 (sp : S1) (a : WE) : WE := fun ρ Qx Q => a ρ Qx fun t ρ1 => sp t ρ1 Q
def w2 (sp : S2) (a b : WE) : WE := fun ρ Qx Q => a ρ Qx fun t ρ1 => b ρ1 Qx fun u ρ2 => sp t u ρ2 Q
/-- a method of a list -/
def lstAt (t : T) (ρ : Rho) : Prop := ∃ s ts, t.peek ρ = some s ∧ s.isL = true ∧ s.items = some ts
def wM0 (sp : S1) (a : WE) : WE := fun ρ Qx Q => a ρ Qx fun t ρ1 => lstAt t ρ1 ∧ sp t ρ1 Q
def wM1 (sp : S2) (a b : WE) : WE := fun ρ Qx Q => a ρ Qx fun t ρ1 => lstAt t ρ1 ∧ b ρ1 Qx fun u ρ2 => sp t u ρ2 Q
section
variable {K : PySem.W.Frag} {I : Sg} {E : XK} {te ta tb : TE} {wa wb : WE}
theorem ev_op2 {r : R2} {sp : S2} (h : Op2 K I r sp) (ha : EvW K I E ta wa) (hb : EvW K I E tb wb) : EvW K I E (tOp r ta tb) (w2 sp wa wb) :=
  fun c ρ tm σ vs F W H r Qx Qv hx hw Q k => ha c ρ tm σ vs F W H r Qx _ hx hw _ fun t ρ' v F' W' H' r' hw' => hb c ρ' (t :: tm) σ (v :: vs) F' W' H' r' Qx _ hx hw' _ fun t2 ρ2 v2 F2 W2 H2 r2 q =>
    h c ρ2 t t2 tm σ v v2 vs F2 W2 H2 r2 Qv q Q k
theorem ev_un1 {r : V → Hp → VK → Prop} {sp : S1} (h : Op1 K I r sp) (ha : EvW K I E ta wa) : EvW K I E (tUn r ta) (w1 sp wa) :=
  fun c ρ tm σ vs F W H r Qx Qv hx hw Q k => ha c ρ tm σ vs F W H r Qx _ hx hw _ fun t ρ' v F' W' H' r' q => h c ρ' t tm σ v vs F' W' H' r' Qv q Q k
theorem ev_call1 {r : List V → Hp → VK → Prop} {sp : S1} (h : Op1 K I (fun v => r [v]) sp) (ha : EvW K I E ta wa) : EvW K I E (tCB r (tCons ta tNil)) (w1 sp wa) :=
  fun c ρ tm σ vs F W H r Qx Qv hx hw Q k => ha c ρ tm σ vs F W H r Qx _ hx hw _ fun t ρ' v F' W' H' r' q => h c ρ' t tm σ v vs F' W' H' r' Qv q Q k
theorem ev_call2 {r : List V → Hp → VK → Prop} {sp : S2} (h : Op2 K I (fun v w => r [v, w]) sp) (ha : EvW K I E ta wa) (hb : EvW K I E tb wb) : EvW K I E (tCB r (tCons ta (tCons tb tNil))) (w2 sp wa wb) :=
  fun c ρ tm σ vs F W H r Qx Qv hx hw Q k => ha c ρ tm σ vs F W H r Qx _ hx hw _ fun t ρ' v F' W' H' r' hw' => hb c ρ' (t :: tm) σ (v :: vs) F' W' H' r' Qx _ hx hw' _ fun t2 ρ2 v2 F2 W2 H2 r2 q =>
    h c ρ2 t t2 tm σ v v2 vs F2 W2 H2 r2 Qv q Q k
theorem tyV_lst {c : Ct} {ρ : Rho} {t : T} {tm : List T} {σ : L2.St} {v : V} {vs : List V} {F : Hp} {W : List Addr} {H : Hp} (r : R K I c ρ (t :: tm) σ (v :: vs) F W H) (h : lstAt t ρ) : tyV K "list" v H := by
  obtain ⟨s, ts, h1, h2, h3⟩ := h
  obtain ⟨f, hr, _⟩ := r.peek h1
  obtain ⟨a, us, g, rfl, _, _, h4, _, _⟩ := rep_seq hr r.sub h3
  exact .inl ⟨rfl, us, h4 h2⟩
theorem ev_mt0 {r : V → List V → Hp → VK → Prop} {sp : S1} (h : Op1 K I (fun v => r v []) sp) (ha : EvW K I E ta wa) : EvW K I E (tBM0 K "list" r ta) (wM0 sp wa) :=
  fun c ρ tm σ vs F W H r Qx Qv hx hw Q k => ha c ρ tm σ vs F W H r Qx _ hx hw _ fun t ρ' v F' W' H' r' q => ⟨tyV_lst r' q.1, h c ρ' t tm σ v vs F' W' H' r' Qv q.2 Q k⟩
theorem ev_mt1 {r : V → List V → Hp → VK → Prop} {sp : S2} (h : Op2 K I (fun v w => r v [w]) sp) (ha : EvW K I E ta wa) (hb : EvW K I E tb wb) : EvW K I E (tBM K "list" r ta (tCons tb tNil)) (wM1 sp wa wb) :=
  fun c ρ tm σ vs F W H r Qx Qv hx hw Q k => ha c ρ tm σ vs F W H r Qx _ hx hw _ fun t ρ' v F' W' H' r' q => ⟨tyV_lst r' q.1, hb c ρ' (t :: tm) σ (v :: vs) F' W' H' r' Qx _ hx q.2 _ fun t2 ρ2 v2 F2 W2 H2 r2 q =>
    h c ρ2 t t2 tm σ v v2 vs F2 W2 H2 r2 Qv q Q k⟩
end

/-! ### items, fields -/
def sIx : S2 := fun t u ρ Q => ∃ i s ts n k, u = tI i ∧ t.peek ρ = some s ∧ s.items = some ts ∧ ixN ts.length i = some n ∧ ts[n]? = some k ∧ give t (.ix n) k ρ Q
def sFl (C : Addr) (f : Str) : S1 := fun t ρ Q => ∃ ns ts k, t.peek ρ = some (.ins C ns ts) ∧ (T.ins C ns ts).child (.fd f) = some k ∧ give t (.fd f) k ρ Q
def wFld (C : Addr) (f : Str) (a : WE) : WE := w1 (sFl C f) a
/-- the values as they are (ints, bools ..): f gives the answer -/
def sD1 (f : PyData → Option PyData) : S1 := fun t ρ Q => ∃ d e, t = .dat d ∧ f d = some e ∧ Q (.dat e) ρ
def T.len : T → Option Nat
  | .dat (.str z) => if z.length ≤ 1000000 then some z.length else none
  | t => t.items.map List.length
def sLen : S1 := fun t ρ Q => ∃ s n, t.peek ρ = some s ∧ s.len = some n ∧ Q (tI n) (t.drop ρ)
/-- a new list of the items, whose parts may be shared -/
def sList : S1 := fun t ρ Q => ∃ s ts, t.peek ρ = some s ∧ s.items = some ts ∧ ts.all T.copy = true ∧ Q (.lst ts) (t.drop ρ)
def sTuple : S1 := fun t ρ Q => ∃ s ts ds, t.peek ρ = some s ∧ (s.isL || s.copy) = true ∧ s.items = some ts ∧ ts.all T.copy = true ∧ T.pys ts = some ds ∧ Q (.dat (.tuple ds)) (t.drop ρ)
def cutT (xs : List T) (lo hi : Option Int) : List T := (xs.drop (HT.sIx xs.length 0 lo)).take (HT.sIx xs.length xs.length hi - HT.sIx xs.length 0 lo)
def sCat : S2 := fun t u ρ Q => ∃ ts us, t.peek ρ = some (.lst ts) ∧ u.peek ρ = some (.lst us) ∧ ts.all T.copy = true ∧ us.all T.copy = true ∧ ts.length + us.length ≤ 1000000 ∧ Q (.lst (ts ++ us)) (t.drop (u.drop ρ))
section
variable {K : PySem.W.Frag} {I : Sg}
theorem ixN_at {n : Nat} {α : Type} {xs : List α} {i : Int} {m : Nat} {u : α} (hl : xs.length = n) (hi : ixN n i = some m) (hu : xs[m]? = some u) : atI xs i = some u := by
  unfold atI
  rw [hl, hi]
  exact hu
theorem op_ix : Op2 K I (rIx K) sIx := fun c ρ t u tm σ v w vs F W H r Qv ⟨i, s, ts, n, k, e, hp, hi, hn, hk, q⟩ Q kk => by
  subst e
  have hw := r.topDat
  cases hw
  have r1 := r.drop
  obtain ⟨f, hr, _⟩ := r1.peek hp
  obtain ⟨a, us, g, rfl, hA, _, hL, hT, hU⟩ := rep_seq hr r1.sub hi
  have hlen := repA_len hA
  have fin : ∀ {u' : V} {t' : T} {ρ' : Rho}, us[n]? = some u' → R K I c ρ' (t' :: tm) σ (u' :: vs) F W H → Qv t' ρ' → rIx K (.ref a) (.int i) H Q := fun {u' t' ρ'} h1 h2 h3 => by
    have hat := ixN_at hlen hn h1
    cases hs : s.isL with
    | true => exact .inl ⟨a, us, i, u', rfl, rfl, hL hs, hat, kk _ _ _ _ _ _ h2 h3⟩
    | false => exact .inr (.inl ⟨a, us, i, u', rfl, rfl, hT hs, hat, kk _ _ _ _ _ _ h2 h3⟩)
  have byDat : ∀ d, s = .dat d → rIx K (.ref a) (.int i) H Q := fun d hd => by
    obtain ⟨u', f', h1, h2⟩ := repA_at hA hk
    have hkc : k.copy = true := by
      subst hd
      have hmem := List.mem_of_getElem? hk
      cases d <;> first | (cases hi; done) | (cases hi; obtain ⟨x, _, rfl⟩ := List.mem_map.mp hmem; rfl)
    unfold Hz.give at q
    rw [if_pos hkc] at q
    exact fin h1 ((r1.dropT).dup h2 hkc) q
  have byTree : s.child (.ix n) = some k → s.copy = false → rIx K (.ref a) (.int i) H Q := fun hc hs => by
    obtain ⟨u', t', ρ', ⟨a', us', e', ho, hu'⟩, h2, h3⟩ := r1.give hp hc q
    cases e'
    have e := hU hs us' ho
    subst e
    exact fin hu' h2 h3
  cases s with
  | dat d => exact byDat d rfl
  | lst xs => cases hi; exact byTree hk rfl
  | tup xs => cases hi; exact byTree hk rfl
  | _ => cases hi
theorem op_fld {C : Addr} {f : Str} (hC : Cls K C) (hf : NoAttr K C f) : Op1 K I (fun x H Q => ∃ a C dx fs v, x = .ref a ∧ H a = some (.ins C dx fs) ∧ Cls K C ∧ NoAttr K C f ∧ fs.lookup f = some v ∧ Q v H) (sFl C f) :=
  fun c ρ t tm σ v vs F W H r Qv ⟨ns, ts, k, hp, hk, q⟩ Q kk => by
  obtain ⟨u', t', ρ', ⟨a, C', dx, fs, e, ho, hl⟩, h2, h3⟩ := r.give hp hk q
  obtain ⟨g, hr, _⟩ := r.peek hp
  subst e
  cases hr with
  | ins h1 h0 hA p =>
    rw [h1] at ho
    cases ho
    exact ⟨a, C, _, _, u', rfl, h1, hC, hf, hl, kk _ _ _ _ _ _ h2 h3⟩
theorem ev_fld {E : XK} {ta : TE} {wa : WE} {C : Addr} {f : Str} (hC : Cls K C) (hf : NoAttr K C f) (ha : EvW K I E ta wa) : EvW K I E (tFld K ta f) (wFld C f wa) := ev_un1 (op_fld hC hf) ha
theorem op_len : Op1 K I (fun v H Q => ∃ x n, [v] = [x] ∧ LenV K x H n ∧ Q (.int n) H) sLen := fun c ρ t tm σ v vs F W H r Qv ⟨s, n, hp, hn, q⟩ Q kk => by
  refine ⟨v, n, rfl, ?_, kk _ _ _ _ _ _ (r.dropT.dat (.int _)) q⟩
  obtain ⟨f, hr, _⟩ := r.peek hp
  have seq : ∀ ts, s.items = some ts → ts.length = n → LenV K v H n := fun ts hi hl => by
    obtain ⟨a, us, g, rfl, hA, _, hL, hT, _⟩ := rep_seq hr r.sub hi
    have e := repA_len hA
    cases hs : s.isL with
    | true => exact .inl ⟨us, hL hs, by omega⟩
    | false => exact .inr ⟨us, hT hs, by omega⟩
  have viaMap : s.items.map List.length = some n → LenV K v H n := fun h => by
    cases e : s.items with
    | none => rw [e] at h; cases h
    | some ts => rw [e] at h; cases h; exact seq ts e rfl
  cases s with
  | dat d =>
    cases d with
    | str z =>
      have hn' : (if z.length ≤ 1000000 then some z.length else none) = some n := hn
      by_cases hz : z.length ≤ 1000000
      · rw [if_pos hz] at hn'
        cases hn'
        cases hr with
        | dat h => cases h; exact ⟨line_of hz, rfl⟩
      · rw [if_neg hz] at hn'; cases hn'
    | _ => exact viaMap hn
  | _ => exact viaMap hn
theorem R.newLstC {c : Ct} {ρ : Rho} {ts tm : List T} {σ : L2.St} {us vs : List V} {F : Hp} {W : List Addr} {H : Hp} {p : Addr} (h : R K I c ρ tm σ vs F W H) (hA : RepA K F W H us ts []) (hp : H p = none) :
    R K I c ρ (.lst ts :: tm) σ (.ref p :: vs) F W (upd H p (.lst us)) := by
  obtain ⟨fA, h0, nd, wf, k⟩ := R.loc (ts := []) (us := []) h rfl
  cases h0
  refine k (us' := [.ref p]) (ts' := [.lst ts]) (Step.alloc (o := .lst us) wf hp) (List.nodup_cons.mpr ⟨fun z => (nomatch z), .nil⟩) (.one (.of (.lst upd_same ?_ (.refl _))))
  exact repA_keep (.refl _) (fun _ z => z) _ _ _ hA fun a ha => (nomatch ha)
theorem R.newTupC {c : Ct} {ρ : Rho} {ts tm : List T} {σ : L2.St} {us vs : List V} {F : Hp} {W : List Addr} {H : Hp} {p : Addr} (h : R K I c ρ tm σ vs F W H) (hA : RepA K F W H us ts []) (hp : H p = none) :
    R K I c ρ (.tup ts :: tm) σ (.ref p :: vs) F W (upd H p (.tup us)) := by
  obtain ⟨fA, h0, nd, wf, k⟩ := R.loc (ts := []) (us := []) h rfl
  cases h0
  refine k (us' := [.ref p]) (ts' := [.tup ts]) (Step.alloc (o := .tup us) wf hp) (List.nodup_cons.mpr ⟨fun z => (nomatch z), .nil⟩) (.one (.of (.tup upd_same ?_ (.refl _))))
  exact repA_keep (.refl _) (fun _ z => z) _ _ _ hA fun a ha => (nomatch ha)
theorem op_list : Op1 K I (fun v H Q => ∃ p ys, [v] = [.ref p] ∧ (SqL K H p ys ∨ SqT K H p ys) ∧ ∀ l, H l = none → Q (.ref l) (upd H l (.lst ys))) sList := fun c ρ t tm σ v vs F W H r Qv ⟨s, ts, hp, hi, hc, q⟩ Q kk => by
  obtain ⟨f, hr, _⟩ := r.peek hp
  obtain ⟨a, us, g, rfl, hA, _, hL, hT, _⟩ := rep_seq hr r.sub hi
  refine ⟨a, us, rfl, ?_, fun l hl => kk _ _ _ _ _ _ (r.dropT.newLstC (repA_copy (.refl _) (fun _ z => z) hA hc) hl) q⟩
  cases hs : s.isL with
  | true => exact .inl (hL hs)
  | false => exact .inr (hT hs)
theorem op_tuple : Op1 K I (fun v H Q => ∃ p ys, [v] = [.ref p] ∧ ((SqL K H p ys ∧ ∀ l, H l = none → Q (.ref l) (upd H l (.tup ys))) ∨ (SqT K H p ys ∧ Q (.ref p) H))) sTuple := fun c ρ t tm σ v vs F W H r Qv ⟨s, ts, ds, hp, hz, hi, hc, hd, q⟩ Q kk => by
  obtain ⟨f, hr, _⟩ := r.peek hp
  obtain ⟨a, us, g, rfl, hA, _, hL, hT, _⟩ := rep_seq hr r.sub hi
  refine ⟨a, us, rfl, ?_⟩
  have hA' := repA_copy (F' := F) (W' := W) (H' := H) (.refl _) (fun _ z => z) hA hc
  cases hs : s.isL with
  | true =>
    refine .inl ⟨hL hs, fun l hl => ?_⟩
    obtain ⟨F3, _, r3⟩ := (r.dropT.newTupC hA' hl).freeze (d := .tuple ds) (by show (T.pys ts).map PyData.tuple = _; rw [hd]; rfl)
    exact kk _ _ _ _ _ _ r3 q
  | false =>
    refine .inr ⟨hT hs, ?_⟩
    have hD : DpAll K F us ds := repA_py (.refl F) ts us [] ds hA' (fun a ha => (nomatch ha)) hd
    cases s with
    | dat d =>
      cases hr with
      | dat hh =>
        have hd' : d = .tuple ds := by
          cases d <;> first | (cases hi; done) | (cases hs; done) | skip
          cases hi
          have : ∀ (xs : List PyData), T.pys (xs.map T.dat) = some xs := by
            intro xs
            induction xs with
            | nil => rfl
            | cons x xs ih =>
              show (match T.py (T.dat x), T.pys (xs.map T.dat) with | some d, some ds => some (d :: ds) | _, _ => none) = _
              rw [ih]; rfl
          rw [this] at hd
          cases hd
          rfl
        subst hd'
        exact kk _ _ _ _ _ _ (r.dropT.dat hh) q
    | tup xs => cases hz
    | lst xs => cases hs
    | _ => cases hi
end
end Hz
/-! Hz6: lists that change, lists joined and cut, small built-ins. -/
namespace Hz
open PySem L2
theorem Step.upd {I : HO → Prop} {F : Hp} {W : List Addr} {H : Hp} {fp : List Addr} {a : Addr} {o : HO} (w : Wf I F W H fp) (ha : a ∈ fp) : Step I F W H fp F W (L2.upd H a o) fp := by
  obtain ⟨g1, g2, g3⟩ := w.own a ha
  refine ⟨⟨w.sub.mut g1, fun b hb => ?_, fun x hx => ⟨(w.wel x hx).1, ?_⟩⟩, .refl _, fun _ h => h, fun b q h n1 n2 => ?_, fun b h => ?_, fun b hb => .inl hb, fun _ h => .inl h, fun _ h => .inl h⟩
  · obtain ⟨h1, h2, h3⟩ := w.own b hb
    refine ⟨h1, h2, ?_⟩
    by_cases e : b = a
    · rw [e, upd_same]; exact Option.some_ne_none _
    · rw [upd_ne e]; exact h3
  · obtain ⟨_, o', e, hi⟩ := w.wel x hx
    exact ⟨o', by rw [upd_ne (show x ≠ a from fun z => g2 (z ▸ hx))]; exact e, hi⟩
  · rw [upd_ne (show b ≠ a from fun z => n1 (z ▸ ha))]; exact h
  · by_cases e : b = a
    · rw [e, upd_same]; exact Option.some_ne_none _
    · rw [upd_ne e]; exact h
theorem repT_reps {K : PySem.W.Frag} {F : Hp} {W : List Addr} {H : Hp} {σ : L2.St} : ∀ {us : List V} {ts : List T} {f : List Addr}, Lst (Rep K F W H) us ts f → Lst (RepT K F W H σ) us ts f
  | _, _, _, .nil => .nil
  | _, _, _, .cons h1 h2 p => .cons (.of h1) (repT_reps h2) p
section
variable {K : PySem.W.Frag} {I : Sg} {c : Ct} {ρ : Rho} {ts cs tm : List T} {σ : L2.St} {x : V} {ws vs : List V} {F : Hp} {W : List Addr} {H : Hp}
/-- an owned list on top is changed: its new items and what is handed out come from its items and from the values under it -/
theorem R.modLst (h : R K I c ρ (.lst ts :: (cs ++ tm)) σ (x :: (ws ++ vs)) F W H) (hl : ws.length = cs.length) (hr : cs.all T.real = true) :
    ∃ a us, x = .ref a ∧ H a = some (.lst us) ∧ us.length = ts.length ∧ ∀ {us' rv : List V} {ts' rs : List T},
      (∀ (P : V → T → List Addr → Prop) (f g : List Addr), Lst P us ts f → Lst P ws cs g → ∃ h k l, Lst P us' ts' h ∧ Lst P rv rs k ∧ (f ++ g).Perm (h ++ k ++ l)) →
      R K I c ρ (rs ++ .lst ts' :: tm) σ (rv ++ x :: vs) F W (upd H a (.lst us')) := by
  obtain ⟨fA, hA, nd, wf, k⟩ := R.loc (ts := .lst ts :: cs) (us := x :: ws) h (by rw [List.length_cons, List.length_cons, hl])
  cases hA with
  | cons h1 h2 p =>
    rename_i f1 f2
    have h1' := h1.real rfl
    cases h1' with
    | lst e1 e2 p1 =>
      rename_i a us fps
      refine ⟨a, us, rfl, e1, repA_len e2, fun {us' rv ts' rs} hm => ?_⟩
      obtain ⟨hh, kk, ll, m1, m2, m3⟩ := hm (Rep K F W H) fps f2 (repA_iff.mp e2) (repA_iff.mp (lst_real h2 hr))
      have pA : fA.Perm (a :: (hh ++ kk ++ ll)) := p.trans ((p1.append_right f2).trans (m3.cons a))
      have nd' := nodup_of_perm pA nd
      have na : a ∉ hh ++ kk ++ ll := (List.nodup_cons.mp nd').1
      have st := (Step.upd (o := .lst us') wf (pA.mem_iff.mpr List.mem_cons_self)).less (f2 := kk ++ (a :: hh)) fun b hb => by
        refine pA.mem_iff.mpr ?_
        rcases List.mem_append.mp hb with hb | hb
        · exact List.mem_cons_of_mem _ (List.mem_append_left _ (List.mem_append_right _ hb))
        · rcases List.mem_cons.mp hb with hb | hb
          · rw [hb]; exact List.mem_cons_self
          · exact List.mem_cons_of_mem _ (List.mem_append_left _ (List.mem_append_left _ hb))
      have kp : ∀ {xs : List V} {ys : List T} {f : List Addr}, Lst (Rep K F W H) xs ys f → (∀ b ∈ f, b ∈ hh ++ kk ++ ll) → Lst (Rep K F W (upd H a (.lst us'))) xs ys f := fun h hb => h.mono (f₀ := _) hb fun x y g hp hs => rep_keep (.refl _) (fun _ z => z) _ _ _ hp fun b hb => upd_ne fun e => na (e ▸ hs b hb)
      have nd2 : (kk ++ (a :: hh)).Nodup := by
        have q : (a :: (hh ++ kk)).Nodup := nd'.sublist ((List.sublist_append_left (hh ++ kk) ll).cons_cons a)
        refine nodup_of_perm ?_ q
        exact ((List.perm_append_comm (l₁ := hh) (l₂ := kk)).cons a).trans List.perm_middle.symm
      have m1' := kp m1 fun b hb => List.mem_append_left _ (List.mem_append_left _ hb)
      have m2' := kp m2 fun b hb => List.mem_append_left _ (List.mem_append_right _ hb)
      have res := k (us' := rv ++ [.ref a]) (ts' := rs ++ [.lst ts']) (fB := kk ++ (a :: hh)) st nd2 ((repT_reps m2').app (.one (.of (.lst upd_same (repA_iff.mpr m1') (.refl _)))))
      rw [List.append_assoc, List.append_assoc] at res
      exact res
end

/-- xs.append(y) -/
def sApp : S2 := fun t u ρ Q => ∃ ts ρ1, t.opn ρ = some (.lst ts, ρ1) ∧ u.real = true ∧ ts.length < 1000000 ∧ Q tN (t.cls (.lst (ts ++ [u])) ρ1)
/-- xs.pop() -/
def sPop : S1 := fun t ρ Q => ∃ ts ρ1 k, t.opn ρ = some (.lst ts, ρ1) ∧ ts[ts.length - 1]? = some k ∧ Q k (t.cls (.lst ts.dropLast) ρ1)
/-- xs.pop(i), 0 ≤ i -/
def sPopAt : S2 := fun t u ρ Q => ∃ ts ρ1 n k, u = tI n ∧ t.opn ρ = some (.lst ts, ρ1) ∧ 0 ≤ n ∧ ts[n.toNat]? = some k ∧ ts.length ≤ 1000000 ∧ Q k (t.cls (.lst (ts.eraseIdx n.toNat)) ρ1)
section
variable {K : PySem.W.Frag} {I : Sg}
theorem op_app : Op2 K I (fun v w => rAppend v [w]) sApp := fun c ρ t u tm σ v w vs F W H r Qv ⟨ts, ρ1, ho, hu, hz, q⟩ Q kk => by
  have r1 := R.mid (ts := [u]) (us := [w]) r rfl
  have hor := r1.orig
  obtain ⟨r2, _⟩ := r1.opn ho
  obtain ⟨a, us, e, hH, hl, hm⟩ := R.modLst (cs := [u]) (ws := [w]) r2 rfl (by rw [List.all_cons, hu]; rfl)
  subst e
  have r3 := hm (us' := us ++ [w]) (rv := []) (ts' := ts ++ [u]) (rs := []) fun P f g h1 h2 => ⟨f ++ g, [], [], h1.app h2, .nil, by rw [List.append_nil, List.append_nil]⟩
  have r4 := R.clsT (t := t) r3 rfl hor
  exact ⟨a, us, w, rfl, rfl, hH, Nat.lt_of_lt_of_le (by omega) (line_of (n := 1000000) (Nat.le_refl _)), kk _ _ _ _ _ _ (r4.dat .non) q⟩
theorem lst_init {α β : Type} {P : α → β → List Addr → Prop} {xs : List α} {ys : List β} {f : List Addr} {n : Nat} {y : β} (h : Lst P xs ys f) (hy : ys[n]? = some y) :
    ∃ x h1 h2, xs[n]? = some x ∧ P x y h1 ∧ Lst P (xs.eraseIdx n) (ys.eraseIdx n) h2 ∧ f.Perm (h2 ++ h1) := by
  induction h generalizing n with
  | nil => cases hy
  | cons h1 h2 p ih =>
    rename_i x y' xs ys fp f1 f2
    cases n with
    | zero =>
      cases hy
      exact ⟨x, f1, f2, rfl, h1, h2, p.trans List.perm_append_comm⟩
    | succ n =>
      obtain ⟨z, g1, g2, e1, e2, e3, e4⟩ := ih hy
      exact ⟨z, g1, f1 ++ g2, e1, e2, .cons h1 e3 (.refl _), p.trans (by rw [List.append_assoc]; exact e4.append_left f1)⟩
theorem dropLast_erase {α : Type} : ∀ {xs : List α}, xs.dropLast = xs.eraseIdx (xs.length - 1)
  | [] => rfl
  | [x] => rfl
  | x :: y :: xs => by
    have ih := dropLast_erase (xs := y :: xs)
    show x :: (y :: xs).dropLast = x :: (y :: xs).eraseIdx ((y :: xs).length - 1)
    rw [ih]
theorem op_pop : Op1 K I (fun v => rPop v []) sPop := fun c ρ t tm σ v vs F W H r Qv ⟨ts, ρ1, k, ho, hk, q⟩ Q kk => by
  have hor := r.orig
  obtain ⟨r2, _⟩ := r.opn ho
  obtain ⟨a, us, e, hH, hl, hm⟩ := R.modLst (cs := []) (ws := []) r2 rfl rfl
  subst e
  obtain ⟨w, hw⟩ : ∃ w, us[us.length - 1]? = some w := by
    have : ts.length - 1 < ts.length := (List.getElem?_eq_some_iff.mp hk).1
    exact ⟨_, List.getElem?_eq_getElem (by omega)⟩
  have r3 := hm (us' := us.dropLast) (rv := [w]) (ts' := ts.dropLast) (rs := [k]) fun P f g h1 h2 => by
    cases h2
    obtain ⟨x, g1, g2, e1, e2, e3, e4⟩ := lst_init h1 hk
    rw [← hl, hw] at e1
    cases e1
    refine ⟨g2, g1, [], ?_, .one e2, by rw [List.append_nil, List.append_nil]; exact e4⟩
    rw [dropLast_erase, dropLast_erase, hl]
    exact e3
  have r4 := R.mid (ts := [k]) (us := [w]) r3 rfl
  have r5 := R.clsT (t := t) r4 rfl hor
  exact ⟨a, us, w, rfl, rfl, hH, hw, kk _ _ _ _ _ _ r5 q⟩
theorem op_popAt : Op2 K I (fun v w => rPopAt v [w]) sPopAt := fun c ρ t u tm σ v w vs F W H r Qv ⟨ts, ρ1, n, k, hu, ho, h0, hk, hz, q⟩ Q kk => by
  subst hu
  have hw := r.topDat
  cases hw
  have r1 := r.drop
  have hor := r1.orig
  obtain ⟨r2, _⟩ := r1.opn ho
  obtain ⟨a, us, e, hH, hl, hm⟩ := R.modLst (cs := []) (ws := []) r2 rfl rfl
  subst e
  have hlt : n.toNat < ts.length := (List.getElem?_eq_some_iff.mp hk).1
  obtain ⟨w, hw⟩ : ∃ w, us[n.toNat]? = some w := ⟨_, List.getElem?_eq_getElem (by omega)⟩
  have r3 := hm (us' := us.eraseIdx n.toNat) (rv := [w]) (ts' := ts.eraseIdx n.toNat) (rs := [k]) fun P f g h1 h2 => by
    cases h2
    obtain ⟨x, g1, g2, e1, e2, e3, e4⟩ := lst_init h1 hk
    rw [hw] at e1
    cases e1
    exact ⟨g2, g1, [], e3, .one e2, by rw [List.append_nil, List.append_nil]; exact e4⟩
  have r4 := R.mid (ts := [k]) (us := [w]) r3 rfl
  have r5 := R.clsT (t := t) r4 rfl hor
  exact ⟨a, us, n, n.toNat, w, rfl, rfl, hH, by omega, by omega, seqIndex_of h0 (by omega), hw, kk _ _ _ _ _ _ r5 q⟩
theorem op_cat : Op2 K I rCat sCat := fun c ρ t u tm σ v w vs F W H r Qv ⟨ts, us, hp, hq, hc1, hc2, hz, q⟩ Q kk => by
  obtain ⟨g, hr2, _⟩ := r.peek hq
  obtain ⟨f, hr1, _⟩ := r.drop.peek hp
  cases hr1 with
  | lst a1 a2 p1 =>
    cases hr2 with
    | lst b1 b2 p2 =>
      rename_i a xs fps b ys gps
      have e1 := repA_len a2
      have e2 := repA_len b2
      refine ⟨a, b, xs, ys, rfl, rfl, a1, b1, line_of (by omega), fun p hp => kk _ _ _ _ _ _ (r.dropT.dropT.newLstC ?_ hp) q⟩
      have k1 := repA_iff.mp (repA_copy (F' := F) (W' := W) (H' := H) (.refl _) (fun _ z => z) a2 hc1)
      have k2 := repA_iff.mp (repA_copy (F' := F) (W' := W) (H' := H) (.refl _) (fun _ z => z) b2 hc2)
      exact repA_iff.mpr (k1.app k2)
/-- slices -/
def oNone : Rho → WX → (Option Int → Rho → Prop) → Prop := fun ρ _ Q => Q none ρ
def oSome (a : WE) : Rho → WX → (Option Int → Rho → Prop) → Prop := fun ρ Qx Q => a ρ Qx fun t ρ1 => ∃ i, t = tI i ∧ Q (some i) ρ1
def EvO (K : PySem.W.Frag) (I : Sg) (E : XK) (to : TO) (wo : Rho → WX → (Option Int → Rho → Prop) → Prop) : Prop :=
  ∀ c ρ tm σ vs F W H, R K I c ρ tm σ vs F W H → ∀ Qx Qv, XOk K I c E Qx → wo ρ Qx Qv →
    ∀ Q : Option Int → Hp → Prop, (∀ o ρ' F' W' H', R K I c ρ' tm σ vs F' W' H' → Qv o ρ' → Q o H') → to σ H Q
variable {E : XK} {te ta : TE} {we wa : WE} {tl th : TO} {wl wh : Rho → WX → (Option Int → Rho → Prop) → Prop}
theorem eo_none : EvO K I E tNoPart oNone := fun c ρ tm σ vs F W H r Qx Qv hx hw Q k => k _ _ _ _ _ r hw
theorem eo_some (ha : EvW K I E ta wa) : EvO K I E (tPart ta) (oSome wa) := fun c ρ tm σ vs F W H r Qx Qv hx hw Q k =>
  ha c ρ tm σ vs F W H r Qx _ hx hw _ fun t ρ' v F' W' H' r' ⟨i, e, q⟩ => by
    subst e
    have d := r'.topDat
    cases d
    exact ⟨i, rfl, k _ _ _ _ _ r'.drop q⟩
/-- xs[lo:hi] of a list -/
def wSl (a : WE) (lo hi : Rho → WX → (Option Int → Rho → Prop) → Prop) : WE := fun ρ Qx Q => a ρ Qx fun t ρ1 => lo ρ1 Qx fun l ρ2 => hi ρ2 Qx fun h ρ3 =>
  ∃ s ts, t.peek ρ3 = some s ∧ s.isL = true ∧ s.items = some ts ∧ ts.all T.copy = true ∧ Q (.lst (cutT ts l h)) (t.drop ρ3)
theorem lst_drop {α β : Type} {P : α → β → List Addr → Prop} : ∀ {xs : List α} {ys : List β} (n : Nat), Lst P xs ys [] → Lst P (xs.drop n) (ys.drop n) []
  | _, _, 0, h => h
  | _, _, n + 1, .nil => .nil
  | _, _, n + 1, .cons (f1 := f1) (f2 := f2) h1 h2 p => by
    have e := List.perm_nil.mp p.symm
    rw [List.append_eq_nil_iff] at e
    obtain ⟨e1, e2⟩ := e
    subst e2
    exact lst_drop n h2
theorem lst_take {α β : Type} {P : α → β → List Addr → Prop} : ∀ {xs : List α} {ys : List β} (n : Nat), Lst P xs ys [] → Lst P (xs.take n) (ys.take n) []
  | _, _, 0, h => .nil
  | _, _, n + 1, .nil => .nil
  | _, _, n + 1, .cons (f1 := f1) (f2 := f2) h1 h2 p => by
    have e := List.perm_nil.mp p.symm
    rw [List.append_eq_nil_iff] at e
    obtain ⟨e1, e2⟩ := e
    subst e1
    subst e2
    exact .cons h1 (lst_take n h2) (.refl _)
theorem ev_sl (ha : EvW K I E ta wa) (hl : EvO K I E tl wl) (hh : EvO K I E th wh) : EvW K I E (tSl (rSlL K) ta tl th) (wSl wa wl wh) := fun c ρ tm σ vs F W H r Qx Qv hx hw Q k =>
  ha c ρ tm σ vs F W H r Qx _ hx hw _ fun t ρ' v F' W' H' r' q1 => hl c ρ' (t :: tm) σ (v :: vs) F' W' H' r' Qx _ hx q1 _ fun lo ρ2 F2 W2 H2 r2 q2 => hh c ρ2 (t :: tm) σ (v :: vs) F2 W2 H2 r2 Qx _ hx q2 _
    fun hi ρ3 F3 W3 H3 r3 ⟨s, ts, hp, hL0, hi', hc, q⟩ => by
  obtain ⟨f, hr, _⟩ := r3.peek hp
  obtain ⟨a, us, g, rfl, hA, _, hL, _, _⟩ := rep_seq hr r3.sub hi'
  refine ⟨a, us, rfl, hL hL0, fun p hpn => k _ _ _ _ _ _ (r3.dropT.newLstC ?_ hpn) q⟩
  have k1 := repA_iff.mp (repA_copy (F' := F3) (W' := W3) (H' := H3) (.refl _) (fun _ z => z) hA hc)
  have e := k1.len
  show RepA K F3 W3 H3 (cutV us lo hi) (cutT ts lo hi) []
  unfold cutV cutT
  rw [e]
  exact repA_iff.mpr (lst_take _ (lst_drop _ k1))
/-- small built-ins on ints -/
theorem op_abs : Op1 K I (fun v H Q => ∃ i, [v] = [.int i] ∧ Q (.int (if i < 0 then -i else i)) H) (fun t ρ Q => ∃ i, t = tI i ∧ Q (tI (if i < 0 then -i else i)) ρ) := fun c ρ t tm σ v vs F W H r Qv ⟨i, e, q⟩ Q kk => by
  subst e
  have d := r.topDat
  cases d
  exact ⟨i, rfl, kk _ _ _ _ _ _ (r.drop.dat (.int _)) q⟩
def sInt : S1 := fun t ρ Q => (∃ i, t = tI i ∧ Q (tI i) ρ) ∨ ∃ b, t = tBo b ∧ Q (tI (if b then 1 else 0)) ρ
theorem op_int : Op1 K I (fun v H Q => (∃ i, [v] = [.int i] ∧ Q (.int i) H) ∨ ∃ k, [v] = [.bl k] ∧ Q (.int (if k then 1 else 0)) H) sInt := fun c ρ t tm σ v vs F W H r Qv hh Q kk => by
  rcases hh with ⟨i, e, q⟩ | ⟨b, e, q⟩
  · subst e
    have d := r.topDat
    cases d
    exact .inl ⟨i, rfl, kk _ _ _ _ _ _ (r.drop.dat (.int _)) q⟩
  · subst e
    have d := r.topDat
    cases d
    exact .inr ⟨b, rfl, kk _ _ _ _ _ _ (r.drop.dat (.int _)) q⟩
def sII (g : Int → Int → PyData) : S2 := fun t u ρ Q => ∃ i j, t = tI i ∧ u = tI j ∧ Q (.dat (g i j)) ρ
theorem op_max2 : Op2 K I (fun v w H Q => ∃ i j, [v, w] = [.int i, .int j] ∧ Q (.int (if j > i then j else i)) H) (sII fun i j => .int (if j > i then j else i)) := fun c ρ t u tm σ v w vs F W H r Qv ⟨i, j, e1, e2, q⟩ Q kk => by
  subst e1; subst e2
  have d := r.topDat
  have d' := r.drop.topDat
  cases d
  cases d'
  exact ⟨i, j, rfl, kk _ _ _ _ _ _ (r.drop.drop.dat (.int _)) q⟩
theorem op_min2 : Op2 K I (fun v w H Q => ∃ i j, [v, w] = [.int i, .int j] ∧ Q (.int (if j < i then j else i)) H) (sII fun i j => .int (if j < i then j else i)) := fun c ρ t u tm σ v w vs F W H r Qv ⟨i, j, e1, e2, q⟩ Q kk => by
  subst e1; subst e2
  have d := r.topDat
  have d' := r.drop.topDat
  cases d
  cases d'
  exact ⟨i, j, rfl, kk _ _ _ _ _ _ (r.drop.drop.dat (.int _)) q⟩
end
end Hz
/-! Hz7: statements by trees. -/
namespace Hz
open PySem L2
structure WO where
  nx : Rho → Prop
  rt : T → Rho → Prop
  bk : Rho → Prop
  ct : Rho → Prop
abbrev WS := WO → WX → Rho → Prop
abbrev WG := T → Rho → WX → (Rho → Prop) → Prop
abbrev WGs := List T → Rho → WX → (Rho → Prop) → Prop
structure DOk (K : PySem.W.Frag) (I : Sg) (c : Ct) (tm : List T) (vs : List V) (O : WO) (D : Ends) : Prop where
  nx : ∀ ρ σ F W H, R K I c ρ tm σ vs F W H → O.nx ρ → D.nx σ H
  rt : ∀ t ρ σ v F W H, R K I c ρ (t :: tm) σ (v :: vs) F W H → t.real = true → O.rt t ρ → D.rt v H
  bk : ∀ ρ σ F W H, R K I c ρ tm σ vs F W H → O.bk ρ → D.bk σ H
  ct : ∀ ρ σ F W H, R K I c ρ tm σ vs F W H → O.ct ρ → D.ct σ H
def SvW (K : PySem.W.Frag) (I : Sg) (E : XK) (ts : TS) (ws : WS) : Prop :=
  ∀ c ρ tm σ vs F W H, R K I c ρ tm σ vs F W H → (∀ x ∈ tm, x.noLz = true) → ∀ O Qx D, XOk K I c E Qx → DOk K I c tm vs O D → ws O Qx ρ → ts D σ H
/-- the slots but those at as are as they were -/
def SameBut (σ σ' : L2.St) (as : List Nat) : Prop := σ'.length = σ.length ∧ ∀ i, i ∉ as → σ'[i]? = σ[i]?
theorem SameBut.refl (σ : L2.St) (as : List Nat) : SameBut σ σ as := ⟨rfl, fun _ _ => rfl⟩
theorem SameBut.trans {σ σ1 σ2 : L2.St} {as bs : List Nat} (h : SameBut σ σ1 as) (k : SameBut σ1 σ2 bs) : SameBut σ σ2 (as ++ bs) :=
  ⟨k.1.trans h.1, fun i hi => (k.2 i fun z => hi (List.mem_append_right _ z)).trans (h.2 i fun z => hi (List.mem_append_left _ z))⟩
def GvW (K : PySem.W.Frag) (I : Sg) (E : XK) (as : List Nat) (g : TG) (wg : WG) : Prop :=
  ∀ c ρ t tm σ v vs F W H, R K I c ρ (t :: tm) σ (v :: vs) F W H → t.real = true → (∀ x ∈ tm, x.noLz = true) → ∀ Qx (Qg : Rho → Prop) (D : L2.St → Hp → Prop), XOk K I c E Qx →
    (∀ ρ σ' F W H, R K I c ρ tm σ' vs F W H → SameBut σ σ' as → Qg ρ → D σ' H) → wg t ρ Qx Qg → g v σ H D
def GsW (K : PySem.W.Frag) (I : Sg) (E : XK) (as : List Nat) (g : TGs) (wg : WGs) : Prop :=
  ∀ c ρ ts tm σ us vs F W H, R K I c ρ (ts ++ tm) σ (us ++ vs) F W H → us.length = ts.length → ts.all T.real = true → (∀ x ∈ tm, x.noLz = true) → ∀ Qx (Qg : Rho → Prop) (D : L2.St → Hp → Prop), XOk K I c E Qx →
    (∀ ρ σ' F W H, R K I c ρ tm σ' vs F W H → SameBut σ σ' as → Qg ρ → D σ' H) → wg ts ρ Qx Qg → g us σ H D
theorem real_noLz {t : T} (h : t.real = true) : t.noLz = true := by cases t <;> first | rfl | cases h

/-! ### targets -/
def gN (i : Nat) : WG := fun t ρ _ Q => Q (ρ.set i (some t))
def gNl : WGs := fun ts ρ _ Q => ts = [] ∧ Q ρ
def gCn (g : WG) (gs : WGs) : WGs := fun ts ρ Qx Q => ∃ t r, ts = t :: r ∧ g t ρ Qx fun ρ1 => gs r ρ1 Qx Q
def T.titems : T → Option (List T)
  | .tup ts => some ts
  | .dat (.tuple ds) => some (ds.map .dat)
  | _ => none
def gTp (n : Nat) (gs : WGs) : WG := fun t ρ Qx Q => ∃ ts, t.titems = some ts ∧ ts.length = n ∧ gs ts ρ Qx Q
/-- o[i] = v -/
def gIx (a b : WE) : WG := fun t ρ Qx Q => a ρ Qx fun ta ρ1 => b ρ1 Qx fun tb ρ2 => ∃ i n ts ρ3, tb = tI i ∧ ta.opn ρ2 = some (.lst ts, ρ3) ∧ ixN ts.length i = some n ∧ Q (ta.cls (.lst (ts.set n t)) ρ3)
section
variable {K : PySem.W.Frag} {I : Sg} {E : XK}
theorem g_name {i : Nat} (hi : i ∉ I.prot) : GvW K I E [i] (gName i) (gN i) := fun c ρ t tm σ v vs F W H r ht hz Qx Qg D hx k q => k _ _ _ _ _ (r.set ht hz hi) ⟨List.length_set, fun j hj => List.getElem?_set_ne (fun e => hj (by rw [e]; exact List.mem_cons_self))⟩ q
theorem g_nil : GsW K I E [] gNil gNl := fun c ρ ts tm σ us vs F W H r hl hr hz Qx Qg D hx k ⟨e, q⟩ => by
  subst e
  have e : us = [] := List.eq_nil_of_length_eq_zero hl
  subst e
  exact ⟨rfl, k _ _ _ _ _ r (SameBut.refl _ _) q⟩
theorem g_cons {as bs : List Nat} {g : TG} {gs : TGs} {wg : WG} {wgs : WGs} (h1 : GvW K I E as g wg) (h2 : GsW K I E bs gs wgs) : GsW K I E (as ++ bs) (gCons g gs) (gCn wg wgs) := fun c ρ ts tm σ us vs F W H r hl hr hz Qx Qg D hx k ⟨t, tr, e, q⟩ => by
  subst e
  cases us with
  | nil => cases hl
  | cons u ur =>
    rw [List.all_cons, Bool.and_eq_true] at hr
    refine ⟨u, ur, rfl, h1 c ρ t (tr ++ tm) σ u (ur ++ vs) F W H r hr.1 ?_ Qx _ _ hx (fun ρ' σ' F' W' H' r' sb q' => h2 c ρ' tr tm σ' ur vs F' W' H' r' (Nat.succ.inj hl) hr.2 hz Qx Qg D hx (fun ρ2 σ2 F2 W2 H2 r2 sb2 q2 => k ρ2 σ2 F2 W2 H2 r2 (sb.trans sb2) q2) q') q⟩
    intro x hx
    rcases List.mem_append.mp hx with hx | hx
    · exact real_noLz (List.all_eq_true.mp hr.2 x hx)
    · exact hz x hx
/-- a tuple parted into its items -/
theorem R.untup {c : Ct} {ρ : Rho} {t : T} {tm ts : List T} {σ : L2.St} {v : V} {vs : List V} {F : Hp} {W : List Addr} {H : Hp} (h : R K I c ρ (t :: tm) σ (v :: vs) F W H) (hi : t.titems = some ts) :
    ∃ a us, v = .ref a ∧ SqT K H a us ∧ us.length = ts.length ∧ ts.all T.real = true ∧ R K I c ρ (ts ++ tm) σ (us ++ vs) F W H := by
  obtain ⟨fA, hA, nd, wf, k⟩ := h.loc (ts := [t]) (us := [v]) rfl
  have fin : ∀ {us : List V} {g : List Addr}, RepA K F W H us ts g → ts.all T.real = true := fun {us g} hh => by
    have := repA_iff.mp hh
    clear hh hi h
    induction this with
    | nil => rfl
    | cons h1 _ _ ih => rw [List.all_cons, rep_real h1, ih]; rfl
  cases hA with
  | cons h1 h2 p =>
    cases h2
    cases t with
    | tup xs =>
      cases hi
      cases h1.real rfl with
      | tup e1 e2 p1 =>
        rename_i fps
        have p' := p
        rw [List.append_nil] at p'
        have pm := p'.trans p1
        refine ⟨_, _, rfl, SqT.of e1, repA_len e2, fin e2, k (us' := _) (ts' := _) (fB := fps) ((Step.refl wf).less fun b hb => pm.mem_iff.mpr (List.mem_cons_of_mem _ hb)) ((nodup_of_perm pm nd).sublist (List.sublist_cons_self _ _)) (repT_reps (repA_iff.mp e2))⟩
    | dat d =>
      cases d with
      | tuple ds =>
        cases hi
        cases h1.real rfl with
        | dat hd =>
          cases hd with
          | tup e1 e2 =>
            have e3 := repA_dats (W := W) (H := H) e2
            exact ⟨_, _, rfl, sqt_sub h.sub e1, repA_len e3, fin e3, k (us' := _) (ts' := _) (fB := []) ((Step.refl wf).less fun b hb => (nomatch hb)) .nil (repT_reps (repA_iff.mp e3))⟩
      | _ => cases hi
    | _ => cases hi
theorem g_tup {as : List Nat} {gs : TGs} {wgs : WGs} {n : Nat} (h : GsW K I E as gs wgs) : GvW K I E as (gTup K n gs) (gTp n wgs) := fun c ρ t tm σ v vs F W H r ht hz Qx Qg D hx k ⟨ts, hi, hn, q⟩ => by
  obtain ⟨a, us, rfl, hs, hl, hr, r2⟩ := r.untup hi
  exact ⟨a, us, rfl, hs, by omega, h c ρ ts tm σ us vs F W H r2 hl hr hz Qx Qg D hx k q⟩
theorem g_sub {ta tb : TE} {wa wb : WE} (ha : EvW K I E ta wa) (hb : EvW K I E tb wb) : GvW K I E [] (gSub ta tb rSetL) (gIx wa wb) := fun c ρ t tm σ v vs F W H r ht hz Qx Qg D hx k hw =>
  ha c ρ (t :: tm) σ (v :: vs) F W H r Qx _ hx hw _ fun tA ρ1 x F1 W1 H1 r1 q1 => hb c ρ1 (tA :: t :: tm) σ (x :: v :: vs) F1 W1 H1 r1 Qx _ hx q1 _ fun tB ρ2 y F2 W2 H2 r2 ⟨i, n, ts, ρ3, e, ho, hn, q⟩ => by
  subst e
  have hy := r2.topDat
  cases hy
  have r3 := r2.drop
  have hor := r3.orig
  obtain ⟨r4, _⟩ := r3.opn ho
  obtain ⟨a, us, rfl, hH, hl, hm⟩ := R.modLst (cs := [t]) (ws := [v]) r4 rfl (by rw [List.all_cons, ht]; rfl)
  have hlt : n < ts.length := by
    obtain ⟨_, z, _⟩ := ixN_seq hn
    exact z
  have r5 := hm (us' := us.set n v) (rv := []) (ts' := ts.set n t) (rs := []) fun P f g h1 h2 => by
    obtain ⟨x, f1, f2, e1, e2, e3, e4⟩ := h1.focus (i := n) (List.getElem?_eq_getElem hlt)
    cases h2 with
    | cons j1 j2 pj =>
      cases j2
      have e5 := e4 P v t _ (fun _ _ _ hp _ => hp) j1
      refine ⟨_, [], f1, e5, .nil, ?_⟩
      rw [List.append_nil] at pj
      rw [List.append_nil]
      refine ((e3.append_right g).trans (pj.append_left (f1 ++ f2))).trans ?_
      rw [List.append_assoc]
      refine List.perm_append_comm.trans ?_
      exact List.perm_append_comm.append_right f1
  exact ⟨a, us, i, n, rfl, rfl, hH, by rw [hl]; exact hn, k _ _ _ _ _ (R.clsT (t := tA) r5 rfl hor) (SameBut.refl _ _) q⟩
end

/-! ### statements -/
def sNx : WS := fun O _ ρ => O.nx ρ
def sSq (a b : WS) : WS := fun O Qx ρ => a { O with nx := b O Qx } Qx ρ
def sBk : WS := fun O _ ρ => O.bk ρ
def sCt : WS := fun O _ ρ => O.ct ρ
def sDr (we : WE) : WS := fun O Qx ρ => we ρ Qx fun t ρ1 => O.nx (t.drop ρ1)
def sRt (we : WE) : WS := fun O Qx ρ => we ρ Qx fun t ρ1 => ∃ s ρ2, t.opn ρ1 = some (s, ρ2) ∧ O.rt s ρ2
def sRn : WS := fun O _ ρ => O.rt tN ρ
def sIf (c : WT) (a b : WS) : WS := fun O Qx ρ => c ρ Qx fun k ρ1 => if k = true then a O Qx ρ1 else b O Qx ρ1
def sAs (we : WE) (g : WG) : WS := fun O Qx ρ => we ρ Qx fun t ρ1 => ∃ s ρ2, t.opn ρ1 = some (s, ρ2) ∧ g s ρ2 Qx O.nx
def sPar (i j : Nat) (as : WA) : WS := fun O Qx ρ => as ρ Qx fun ts ρ1 => ∃ t u, ts = [t, u] ∧ t.real = true ∧ u.real = true ∧ O.nx ((ρ1.set i (some t)).set j (some u))
def sAugI (i : Nat) (f : Int → Int → Int) (we : WE) : WS := fun O Qx ρ => ∃ a, ρ[i]? = some (some (tI a)) ∧ we ρ Qx fun t ρ1 => ∃ b, t = tI b ∧ O.nx (ρ1.set i (some (tI (f a b))))
/-- a field of an owned instance gets a value -/
def putFT (f : Str) (t : T) (ns : List Str) (ts : List T) : List Str × List T := match fpos ns f with
  | some i => (ns, ts.set i t)
  | none => (ns ++ [f], ts ++ [t])
def sFd (C : Addr) (f : Str) (wv wo : WE) : WS := fun O Qx ρ => (wMv wv) ρ Qx fun t ρ1 => t.real = true ∧ wo ρ1 Qx fun u ρ2 => ∃ ns ts ρ3, u.opn ρ2 = some (.ins C ns ts, ρ3) ∧ ns.length < 100 ∧ O.nx (u.cls (.ins C (putFT f t ns ts).1 (putFT f t ns ts).2) ρ3)
/-- o.f op= v on ints -/
def sFdAug (C : Addr) (f : Str) (g : Int → Int → Int) (wo wv : WE) : WS := fun O Qx ρ => wo ρ Qx fun u ρ1 => ∃ ns ts a, u.peek ρ1 = some (.ins C ns ts) ∧ (T.ins C ns ts).child (.fd f) = some (tI a) ∧ wv ρ1 Qx fun t ρ2 => ∃ b ns' ts' ρ3, t = tI b ∧
  u.opn ρ2 = some (.ins C ns' ts', ρ3) ∧ ns'.length < 100 ∧ O.nx (u.cls (.ins C (putFT f (tI (g a b)) ns' ts').1 (putFT f (tI (g a b)) ns' ts').2) ρ3)
def sWh (c : WT) (b : WS) : WS := fun O Qx ρ => Inv1 fun Iv : Nat → Rho → Prop => (∃ m, Iv m ρ) ∧ ∀ m ρ1, Iv m ρ1 → c ρ1 Qx fun k ρ2 => if k = true then
  b { O with nx := fun ρ3 => ∃ m', m' < m ∧ Iv m' ρ3, ct := fun ρ3 => ∃ m', m' < m ∧ Iv m' ρ3, bk := O.nx } Qx ρ2 else O.nx ρ2
def sStop (w : WS) : WS := fun O Qx ρ => Stop (w O Qx ρ)
section
variable {K : PySem.W.Frag} {I : Sg} {E : XK} {te ta tb : TE} {we wa wb : WE} {tt : TT} {wt : WT} {s1 s2 : TS} {u1 u2 : WS}
theorem sv_stop (h : SvW K I E s1 u1) : SvW K I E s1 (sStop u1) := fun c ρ tm σ vs F W H r hz O Qx D hx d ⟨q⟩ => h c ρ tm σ vs F W H r hz O Qx D hx d q
theorem DOk.wnx {c : Ct} {tm : List T} {vs : List V} {O : WO} {D : Ends} (d : DOk K I c tm vs O D) {n : Rho → Prop} {N : L2.St → Hp → Prop} (h : ∀ ρ σ F W H, R K I c ρ tm σ vs F W H → n ρ → N σ H) : DOk K I c tm vs { O with nx := n } { D with nx := N } := ⟨h, d.rt, d.bk, d.ct⟩
theorem sv_next : SvW K I E tNext sNx := fun c ρ tm σ vs F W H r hz O Qx D hx d q => d.nx _ _ _ _ _ r q
theorem sv_seq (h1 : SvW K I E s1 u1) (h2 : SvW K I E s2 u2) : SvW K I E (tSeq s1 s2) (sSq u1 u2) := fun c ρ tm σ vs F W H r hz O Qx D hx d q =>
  h1 c ρ tm σ vs F W H r hz _ Qx _ hx (d.wnx fun ρ' σ' F' W' H' r' q' => h2 c ρ' tm σ' vs F' W' H' r' hz O Qx D hx d q') q
theorem sv_brk : SvW K I E tBreak sBk := fun c ρ tm σ vs F W H r hz O Qx D hx d q => d.bk _ _ _ _ _ r q
theorem sv_cont : SvW K I E tCont sCt := fun c ρ tm σ vs F W H r hz O Qx D hx d q => d.ct _ _ _ _ _ r q
theorem sv_drop (h : EvW K I E te we) : SvW K I E (tDrop te) (sDr we) := fun c ρ tm σ vs F W H r hz O Qx D hx d q =>
  h c ρ tm σ vs F W H r Qx _ hx q _ fun t ρ' v F' W' H' r' q' => d.nx _ _ _ _ _ r'.dropT q'
theorem sv_ret (h : EvW K I E te we) : SvW K I E (tRet te) (sRt we) := fun c ρ tm σ vs F W H r hz O Qx D hx d q =>
  h c ρ tm σ vs F W H r Qx _ hx q _ fun t ρ' v F' W' H' r' ⟨s, ρ2, ho, q'⟩ => d.rt _ _ _ _ _ _ _ (r'.opn ho).1 (r'.opn ho).2 q'
theorem sv_retN : SvW K I E tRetN sRn := fun c ρ tm σ vs F W H r hz O Qx D hx d q => d.rt _ _ _ _ _ _ _ (r.dat .non) rfl q
theorem sv_if (hc : EvT K I E tt wt) (h1 : SvW K I E s1 u1) (h2 : SvW K I E s2 u2) : SvW K I E (tIfS tt s1 s2) (sIf wt u1 u2) := fun c ρ tm σ vs F W H r hz O Qx D hx d q =>
  hc c ρ tm σ vs F W H r Qx _ hx q _ fun b ρ' F' W' H' r' q' => by
    cases b with
    | true => exact h1 c ρ' tm σ vs F' W' H' r' hz O Qx D hx d q'
    | false => exact h2 c ρ' tm σ vs F' W' H' r' hz O Qx D hx d q'
theorem sv_asg {as : List Nat} {g : TG} {wg : WG} (h : EvW K I E te we) (hg : GvW K I E as g wg) : SvW K I E (tAsg te g) (sAs we wg) := fun c ρ tm σ vs F W H r hz O Qx D hx d q =>
  h c ρ tm σ vs F W H r Qx _ hx q _ fun t ρ' v F' W' H' r' ⟨s, ρ2, ho, q'⟩ => hg c ρ2 s tm σ v vs F' W' H' (r'.opn ho).1 (r'.opn ho).2 hz Qx _ _ hx (fun ρ3 σ3 F3 W3 H3 r3 _ q3 => d.nx _ _ _ _ _ r3 q3) q'
theorem sv_par {i j : Nat} {tl : TA} {wl : WA} (hi : i ∉ I.prot) (hj : j ∉ I.prot) (h : EvA K I E tl wl) : SvW K I E (tPar i j tl) (sPar i j wl) := fun c ρ tm σ vs F W H r hz O Qx D hx d q =>
  h c ρ tm σ vs F W H r Qx _ hx q _ fun ts us ρ' F' W' H' r' hl ⟨t, u, e, h1, h2, q'⟩ => by
    subst e
    match us, hl with
    | [v, w], _ =>
      refine ⟨v, w, rfl, d.nx _ _ _ _ _ ((R.set (tm := u :: tm) r' h1 (fun x hx => ?_) hi).set h2 hz hj) q'⟩
      rcases List.mem_cons.mp hx with rfl | hx
      · exact real_noLz h2
      · exact hz x hx
theorem sv_augI {i : Nat} {f : Int → Int → Int} (hi : i ∉ I.prot) (h : EvW K I E te we) : SvW K I E (tAug i te (ipI f)) (sAugI i f we) := fun c ρ tm σ vs F W H r hz O Qx D hx d ⟨a, e, q⟩ => by
  obtain ⟨u, g, e1, e2, _⟩ := r.slot e
  cases e2 with
  | dat e2 =>
    cases e2
    refine ⟨_, e1, h c ρ tm σ vs F W H r Qx _ hx q _ fun t ρ' v F' W' H' r' ⟨b, e3, q'⟩ => ?_⟩
    subst e3
    have dv := r'.topDat
    cases dv
    exact ⟨a, b, rfl, rfl, d.nx _ _ _ _ _ ((r'.drop.dat (.int (f a b))).set rfl hz hi) q'⟩
theorem putF_zip : ∀ {ns : List Str} {vs : List V} {f : Str} {y : V}, ns.length = vs.length → putF f y (ns.zip vs) = match fpos ns f with | some i => ns.zip (vs.set i y) | none => (ns ++ [f]).zip (vs ++ [y])
  | [], [], f, y, _ => rfl
  | [], _ :: _, f, y, h => by cases h
  | _ :: _, [], f, y, h => by cases h
  | n :: ns, v :: vs, f, y, h => by
    have ih := putF_zip (ns := ns) (vs := vs) (f := f) (y := y) (Nat.succ.inj h)
    show (if n = f then (n, y) :: ns.zip vs else (n, v) :: putF f y (ns.zip vs)) = match (if n = f then some 0 else (fpos ns f).map (· + 1)) with | some i => (n :: ns).zip ((v :: vs).set i y) | none => (n :: ns ++ [f]).zip (v :: vs ++ [y])
    by_cases e : n = f
    · rw [if_pos e, if_pos e]; rfl
    · rw [if_neg e, if_neg e, ih]
      cases fpos ns f with
      | none => rfl
      | some i => rfl
/-- an owned instance on top, the value under it: the field is stored -/
theorem R.putFld {c : Ct} {ρ : Rho} {t : T} {tm : List T} {σ : L2.St} {x w : V} {vs : List V} {F : Hp} {W : List Addr} {H : Hp} {C : Addr} {ns : List Str} {ts : List T} {f : Str} (h : R K I c ρ (.ins C ns ts :: t :: tm) σ (x :: w :: vs) F W H) (ht : t.real = true) :
    ∃ a dx us, x = .ref a ∧ H a = some (.ins C dx (ns.zip us)) ∧ ns.length = us.length ∧ R K I c ρ (.ins C (putFT f t ns ts).1 (putFT f t ns ts).2 :: tm) σ (x :: vs) F W (upd H a (.ins C dx (putF f w (ns.zip us)))) := by
  obtain ⟨fA, hA, nd, wf, k⟩ := R.loc (ts := [.ins C ns ts, t]) (us := [x, w]) h rfl
  cases hA with
  | cons h1 h2 p =>
    rename_i f1 f2
    cases h2 with
    | cons j1 j2 pj =>
      cases j2
      rename_i g1
      cases h1.real rfl with
      | ins e1 e0 e2 p1 =>
        rename_i a dx us fps
        rw [List.append_nil] at pj
        have pA : fA.Perm (a :: (fps ++ g1)) := p.trans ((p1.append_right f2).trans ((pj.append_left (a :: fps))))
        have nd' := nodup_of_perm pA nd
        have na : a ∉ fps ++ g1 := (List.nodup_cons.mp nd').1
        refine ⟨a, dx, us, rfl, e1, e0, ?_⟩
        have kp1 := repA_keep (K := K) (F := F) (F' := F) (W := W) (W' := W) (H := H) (H' := upd H a (.ins C dx (putF f w (ns.zip us)))) (.refl _) (fun _ z => z) ts us fps e2 fun b hb => upd_ne fun e => na (List.mem_append_left _ (e ▸ hb))
        have kp2 := rep_keep (K := K) (F := F) (F' := F) (W := W) (W' := W) (H := H) (H' := upd H a (.ins C dx (putF f w (ns.zip us)))) (.refl _) (fun _ z => z) t w g1 (j1.real ht) fun b hb => upd_ne fun e => na (List.mem_append_right _ (e ▸ hb))
        have fin : ∀ {ns' : List Str} {us' : List V} {ts' : List T} {g : List Addr}, putF f w (ns.zip us) = ns'.zip us' → ns'.length = us'.length → RepA K F W (upd H a (.ins C dx (putF f w (ns.zip us)))) us' ts' g → (∀ b ∈ g, b ∈ fps ++ g1) → g.Nodup →
            R K I c ρ (.ins C ns' ts' :: tm) σ (.ref a :: vs) F W (upd H a (.ins C dx (putF f w (ns.zip us)))) := fun {ns' us' ts' g} q1 q2 q3 q4 q5 => by
          refine k (us' := [.ref a]) (ts' := [.ins C ns' ts']) (fB := a :: g) ((Step.upd wf (pA.mem_iff.mpr List.mem_cons_self)).less fun b hb => pA.mem_iff.mpr ?_) (List.nodup_cons.mpr ⟨fun z => na (q4 a z), q5⟩) (.one (.of (.ins (by rw [upd_same, q1]) q2 q3 (.refl _))))
          rcases List.mem_cons.mp hb with rfl | hb
          · exact List.mem_cons_self
          · exact List.mem_cons_of_mem _ (q4 b hb)
        have hz := putF_zip (ns := ns) (vs := us) (f := f) (y := w) e0
        have nds : (fps ++ g1).Nodup := (List.nodup_cons.mp nd').2
        unfold putFT
        cases hf : fpos ns f with
        | none =>
          rw [hf] at hz
          exact fin hz (by rw [List.length_append, List.length_append, e0]; rfl) (repA_iff.mpr ((repA_iff.mp kp1).app (.one kp2))) (fun _ z => z) nds
        | some i =>
          rw [hf] at hz
          have hlen := repA_len e2
          by_cases hi : i < ts.length
          · obtain ⟨y, d1, d2, q1, q2, q3, q4⟩ := (repA_iff.mp kp1).focus (i := i) (List.getElem?_eq_getElem hi)
            have q5 := q4 (Rep K F W (upd H a (.ins C dx (putF f w (ns.zip us))))) w t g1 (fun _ _ _ hp _ => hp) kp2
            have pm : (fps ++ g1).Perm (d1 ++ (g1 ++ d2)) := by
              refine (q3.append_right g1).trans ?_
              rw [List.append_assoc]
              exact List.perm_append_comm.append_left d1
            have nd3 := nodup_of_perm pm nds
            refine fin hz (by rw [List.length_set]; exact e0) (repA_iff.mpr q5) (fun b hb => pm.mem_iff.mpr (List.mem_append_right _ hb)) (nd3.sublist (List.sublist_append_right _ _))
          · exfalso
            have bound : ∀ (ns : List Str) (i : Nat), fpos ns f = some i → i < ns.length := by
              intro ns
              induction ns with
              | nil => intro i h; cases h
              | cons n ns ih =>
                intro i h
                have h' : (if n = f then some 0 else (fpos ns f).map (· + 1)) = some i := h
                by_cases e : n = f
                · rw [if_pos e] at h'; cases h'; exact Nat.succ_pos _
                · rw [if_neg e] at h'
                  cases q : fpos ns f with
                  | none => rw [q] at h'; cases h'
                  | some j => rw [q] at h'; cases h'; exact Nat.succ_lt_succ (ih j q)
            have := bound ns i hf
            omega
theorem sv_fld {C : Addr} {f : Str} {tv to : TE} {wv wo : WE} (hC : Cls K C) (hf : NoAttr K C f) (hv : EvW K I E tv wv) (ho : EvW K I E to wo) : SvW K I E (sFld K to tv f) (sFd C f wv wo) := fun c ρ tm σ vs F W H r hz O Qx D hx d q =>
  ev_mv hv c ρ tm σ vs F W H r Qx _ hx q _ fun t ρ1 w F1 W1 H1 r1 ⟨ht, q1⟩ => ho c ρ1 (t :: tm) σ (w :: vs) F1 W1 H1 r1 Qx _ hx q1 _ fun u ρ2 x F2 W2 H2 r2 ⟨ns, ts, ρ3, hop, hn, q2⟩ => by
    obtain ⟨r3, _⟩ := r2.opn hop
    obtain ⟨a, dx, us, rfl, hH, hl, r4⟩ := R.putFld (f := f) r3 ht
    exact ⟨a, C, dx, _, rfl, hH, hC, hf, by rw [List.length_zip]; omega, d.nx _ _ _ _ _ (R.clsT (t := u) r4 rfl r2.orig) q2⟩
theorem sv_fldaug {C : Addr} {f : Str} {tv to : TE} {wv wo : WE} {g : Int → Int → Int} {rd : V → V → Hp → VK → Prop} (hrd : ∀ i j H Q, Q (.int (g i j)) H → rd (.int i) (.int j) H Q) (hC : Cls K C) (hf : NoAttr K C f) (ho : EvW K I E to wo) (hv : EvW K I E tv wv) :
    SvW K I E (sFldAug K to tv rd f) (sFdAug C f g wo wv) := fun c ρ tm σ vs F W H r hz O Qx D hx d q =>
  ho c ρ tm σ vs F W H r Qx _ hx q _ fun u ρ1 x F1 W1 H1 r1 ⟨ns, ts, a, hp, hc, q1⟩ => by
    obtain ⟨ff, hr, _⟩ := r1.peek hp
    obtain ⟨v0, _, _, _, hv0, ⟨a0, C0, dx0, fs0, e0, ho0, hl0⟩, _⟩ := rep_child hr hc
    have hC0 : C0 = C := by
      cases hr with
      | ins z1 _ _ _ => cases e0; rw [z1] at ho0; cases ho0; rfl
    subst hC0
    cases hv0 with
    | dat hv0 =>
      cases hv0
      refine ⟨a0, C0, dx0, fs0, _, e0, ho0, hC, hf, hl0, hv c ρ1 (u :: tm) σ (x :: vs) F1 W1 H1 r1 Qx _ hx q1 _ fun t ρ2 w F2 W2 H2 r2 ⟨b, ns', ts', ρ3, et, hop, hn, q2⟩ => ?_⟩
      subst et
      have dw := r2.topDat
      cases dw
      refine hrd _ _ _ _ ?_
      have r3 := (r2.drop).dat (v := .int (g a b)) (d := .int (g a b)) (.int _)
      have r4 := R.mid (ts := [tI (g a b)]) (us := [.int (g a b)]) r3 rfl
      obtain ⟨r5, _⟩ := r4.opn hop
      obtain ⟨a1, dx, us, e1, hH, hl, r6⟩ := R.putFld (f := f) r5 rfl
      rw [e0] at e1
      cases e1
      exact ⟨dx, _, hH, by rw [List.length_zip]; omega, d.nx _ _ _ _ _ (R.clsT (t := u) r6 rfl r4.orig) q2⟩
theorem sv_while (hc : EvT K I E tt wt) (hb : SvW K I E s1 u1) : SvW K I E (tWhile tt s1) (sWh wt u1) := fun c ρ tm σ vs F W H r hz O Qx D hx d ⟨Iv, ⟨m0, i0⟩, hi⟩ => by
  refine ⟨fun m σ H => ∃ ρ F W, R K I c ρ tm σ vs F W H ∧ Iv m ρ, ⟨m0, ρ, F, W, r, i0⟩, ?_⟩
  rintro m σ1 H1 ⟨ρ1, F1, W1, r1, i1⟩
  refine hc c ρ1 tm σ1 vs F1 W1 H1 r1 Qx _ hx (hi m ρ1 i1) _ fun b ρ2 F2 W2 H2 r2 q2 => ?_
  cases b with
  | true =>
    refine ⟨fun σ H => ∃ m', m' < m ∧ ∃ ρ F W, R K I c ρ tm σ vs F W H ∧ Iv m' ρ, fun σ' H' h => h, ?_⟩
    refine hb c ρ2 tm σ1 vs F2 W2 H2 r2 hz { O with nx := fun ρ3 => ∃ m', m' < m ∧ Iv m' ρ3, ct := fun ρ3 => ∃ m', m' < m ∧ Iv m' ρ3, bk := O.nx } Qx _ hx ⟨?_, d.rt, ?_, ?_⟩ q2
    · exact fun ρ σ F W H r ⟨m', l, i⟩ => ⟨m', l, ρ, F, W, r, i⟩
    · exact fun ρ σ F W H r q => d.nx _ _ _ _ _ r q
    · exact fun ρ σ F W H r ⟨m', l, i⟩ => ⟨m', l, ρ, F, W, r, i⟩
  | false => exact d.nx _ _ _ _ _ r2 q2
end
end Hz
/-! Hz8: what a def promises by trees; calls by position and by name, methods, new instances. -/
namespace Hz
open PySem L2 PyProof.Rows
/-- W args (value, the parameters' trees) (exception class, its value, the parameters' trees) -/
abbrev SpT := List T → (T → Rho → Prop) → (Addr → T → Rho → Prop) → Prop
def spT (K : PySem.W.Frag) (inv : HO → Prop) (W : SpT) : Sp := fun vs H Q E => ∃ ts fp F Wl post ep, Lst (Rep K F Wl H) vs ts fp ∧ fp.Nodup ∧ Wf inv F Wl H fp ∧ W ts post ep ∧
  (∀ t us v fp' F' W' H', Lst (RepS K F' W' H') (some v :: vs.map some) (some t :: us) fp' → fp'.Nodup → Step inv F Wl H fp F' W' H' fp' → post t us → Q v H') ∧
  (∀ C t us v d fp' F' W' H', Lst (RepS K F' W' H') (some v :: vs.map some) (some t :: us) fp' → fp'.Nodup → Step inv F Wl H fp F' W' H' fp' → H' d = some (.xd [("value", v)]) → ep C t us → E (.ref C) (some d) H')
/-- a promise of a def that may look what is being shown (repr): nothing is -/
structure FnG (P : Program) (w : World) (K : PySem.W.Frag) (mg : Str → Option Value) (base : Heap) (CX : CXT) (k : Nat) (f : Addr) (fd : FuncData) (ps : List Str) (sp : Sp) : Prop where
  len : ∀ vs H Q E, sp vs H Q E → vs.length = ps.length
  run : ∀ (A : Around) (outer : List PySem.Env) (s : Shared) (H : Hp) (args : Args) (us : List Value) (vs : List V) (Q : VK) (E : XK), Room k A → A.guards = some [] → Env0 P w K mg base A outer s H →
    BindsTo s fd args (ps.zip us) → Vals vs us → sp vs H Q E → codeAny (model P w) A (.call (.ref f) args) (CR CX outer P w H s Q E) s
section
variable {P : Program} {w : World} {K : PySem.W.Frag} {mg : Str → Option Value} {base : Heap} {CX : CXT} {k j : Nat} {f : Addr} {fd : FuncData} {ps : List Str} {sp : Sp}
theorem FnG.of (F : FnOk P w K mg base CX k f fd ps sp) : FnG P w K mg base CX k f fd ps sp := ⟨F.len, fun A o s H a us vs Q E hr _ => F.run A o s H a us vs Q E hr⟩
theorem FnG.up (F : FnG P w K mg base CX j f fd ps sp) (h : j ≤ k) : FnG P w K mg base CX k f fd ps sp := ⟨F.len, fun A o s H a us vs Q E hr => F.run A o s H a us vs Q E (hr.mono h)⟩
end

/-! ### rules of calls -/
theorem rref (a : Addr) : RelV (.ref a) (.ref a) := rfl
section
variable {X : Cx} {CX : CXT} {k : Nat} {f C : Addr} {fd : FuncData} {ps ks : List Str} {sp : Sp} {E : XK} {x m : Str} {p pos apos : Pos} {e o : Expr} {es : List Expr} {kws : List Keyword} {ta : TE} {t tk : TA}
/-- what a call's result says -/
theorem ends_call {pins : List (Addr × Obj)} {σ : L2.St} {H : Hp} {s : Shared} {Q : VK} (hx : Passes CX X E) (I : Inv X pins σ H s) {r : Result} {s' : Shared} (hq : CR CX X.stack X.prog X.w H s Q E r s') :
    match r with | .ok (.ret u) => EP X pins σ Q u s' | .ok _ => False | .error e => X.xe e s' := by
  cases r with
  | error e => exact hx pins σ H s e s' I hq
  | ok fl => cases fl <;> first | exact I.after hq | exact hq
theorem runG {pins : List (Addr × Obj)} {σ : L2.St} {H : Hp} {s : Shared} {Q : VK} {us vals : List Value} {kw : List (Str × Value)} {vs : List V} (F : FnG X.prog X.w X.K X.mg X.base CX k f fd ps sp) (hr : Room k X.A) (hg : X.A.guards = some []) (hx : Passes CX X E)
    (I : Inv X pins σ H s) (hb : BindsTo s fd ⟨us, kw⟩ (ps.zip vals)) (r : Vals vs vals) (h : sp vs H Q E) : wpAny (model X.prog X.w) X.A (call (.ref f) us kw) (EP X pins σ Q) X.xe s := by
  refine wpAny_call (codeAny_mono (F.run X.A X.stack s H ⟨us, kw⟩ vals vs Q E hr hg I.env0 hb r h) fun res s' hq => ?_)
  have z := ends_call hx I hq
  cases res with
  | error e => exact z
  | ok fl => cases fl <;> exact z
theorem makeG {pins : List (Addr × Obj)} {σ : L2.St} {H : Hp} {s : Shared} {Q : VK} {us vals : List Value} {kw : List (Str × Value)} {vs : List V} (M : Mk X.K C f) (F : FnG X.prog X.w X.K X.mg X.base CX k f fd ps sp) (hr : Room (k + 1) X.A) (hg : X.A.guards = some []) (hx : Passes CX X E)
    (I : Inv X pins σ H s) (hb : ∀ (s2 : Shared) (n : Addr), X.K.In s2.heap → BindsTo s2 fd ⟨.ref n :: us, kw⟩ (ps.zip (.ref n :: vals))) (r : Vals vs vals)
    (h : ∀ x dx, H x = none → H dx = none → dx ≠ x → sp (.ref x :: vs) (upd (upd H dx (.own x)) x (.ins C dx [])) (fun v H2 => v = .non ∧ Q (.ref x) H2) E) :
    wpAny (model X.prog X.w) X.A (call (.ref C) us kw) (EP X pins σ Q) X.xe s := by
  have ne : s.heap.objs.size ≠ s.heap.objs.size + 1 := Nat.ne_of_lt (Nat.lt_succ_self _)
  have hsp := h (s.heap.objs.size + 1) s.heap.objs.size (I.hok.fresh (Nat.le_succ _)) (I.hok.fresh (Nat.le_refl _)) ne
  have J := Inv.made (C := C) I
  have ev := J.env0.make C us kw
  have gu : (X.A.under (.builtin "type.__call__" ⟨.ref C :: us, kw⟩)).guards = some [] := by
    first
      | exact hg
      | (show pushGuards _ X.A.guards = some []; rw [hg]; first | rfl | simp [Code.guards, Code.isGuard, guardIds, pushGuards])
  refine wpAny_call (make_map (f := f) I.kIn M.makes M.init (beq_iff_eq.mp M.fn) (codeAny_mono (F.run _ X.stack _ _ ⟨.ref (s.heap.objs.size + 1) :: us, kw⟩ (.ref (s.heap.objs.size + 1) :: vals) _ _ E
    (hr.make C us kw) gu ev (hb _ _ J.kIn) (.cons (rref _) r) hsp) fun res s' hq => ?_))
  have z := ends_call hx J hq
  cases res with
  | error e => exact z
  | ok fl =>
    cases fl with
    | ret u =>
      obtain ⟨v, H', I3, rv, ⟨ev, q3⟩⟩ := z
      subst ev
      exact ⟨rv, ⟨.ref (s.heap.objs.size + 1), H', I3, rfl, q3⟩⟩
    | _ => exact z.elim
/-- how a call binds: us by position, ws by the names ks, make the values vals -/
def BindG (K : PySem.W.Frag) (fd : FuncData) (ps : List Str) (n : Nat) (ks : List Str) (mk : {α : Type} → List α → List α → List α) : Prop :=
  (∀ (s : Shared) (us ws : List Value), K.In s.heap → us.length = n → ws.length = ks.length → BindsTo s fd ⟨us, ks.zip ws⟩ (ps.zip (mk us ws))) ∧
  ∀ {vs zs : List V} {us ws : List Value}, Vals vs us → Vals zs ws → Vals (mk vs zs) (mk us ws)
/-- f(..): n by position, names ks -/
def tCallG (n m : Nat) (mk : {α : Type} → List α → List α → List α) (sp : Sp) (E : XK) (t tk : TA) : TE := fun σ H Q => t σ H fun vs H1 => tk σ H1 fun zs H2 => vs.length = n ∧ zs.length = m ∧ sp (mk vs zs) H2 Q E
theorem pg_callK (F : FnG X.prog X.w X.K X.mg X.base CX k f fd ps sp) (hr : Room k X.A) (hgd : X.A.guards = some []) (hg : Gl X x) (hm : X.mg x = some (.ref f)) (hk : PySem.W.keepIn X.K (.ref f) = true) {n : Nat} {mk : {α : Type} → List α → List α → List α} (hb : BindG X.K fd ps n ks mk) (hx : Passes CX X E)
    (ha : PA X (e :: es) t) (hkw : PK X kws tk) (hall : (backToKw pos (keywordEach kws X.env)).all (·.1.isSome) = true := by rfl) (hks : (backToKw pos (keywordEach kws X.env)).filterMap (·.1) = ks := by rfl)
    (hdb : (x == ("__debug__" : Str)) = false := by decide) (he : starEach (e :: es) X.env = (false, eval e X.env) :: starEach es X.env := by rfl)
    (hpl : ((backTo pos (starEach (e :: es) X.env)).any (·.1) || (backToKw pos (keywordEach kws X.env)).any (·.1.isNone)) = false := by rfl) : PE X (.Call (.Name x p) (e :: es) kws pos) (tCallG n ks.length mk sp E t tk) :=
  ⟨fun pins s σ H Q I h => wpAny_Call_Name_kw (ld_glob I hg hm (PySem.W.callWith_KW (h₀ := X.base) I.ok.mod.kin hk hall (thn (ha.run pos pins s σ H _ I h) fun us s1 ⟨vs, H1, I1, r, q⟩ =>
    thn (hkw.run pos pins s1 σ H1 _ I1 q) fun ws s2 ⟨zs, H2, I2, rz, l1, l2, q2⟩ => ⟨I2.kIn, by
      rw [hks]
      exact runG F hr hgd hx I2 (hb.1 s2 us ws I2.kIn (by rw [← r.length, l1]) (by rw [← rz.length, l2])) (hb.2 r rz) q2⟩) hpl he) hdb)⟩
theorem pg_callK0 (F : FnG X.prog X.w X.K X.mg X.base CX k f fd ps sp) (hr : Room k X.A) (hgd : X.A.guards = some []) (hg : Gl X x) (hm : X.mg x = some (.ref f)) (hk : PySem.W.keepIn X.K (.ref f) = true) {mk : {α : Type} → List α → List α → List α} (hb : BindG X.K fd ps 0 ks mk) (hx : Passes CX X E)
    (hkw : PK X kws tk) (hall : (backToKw pos (keywordEach kws X.env)).all (·.1.isSome) = true := by rfl) (hks : (backToKw pos (keywordEach kws X.env)).filterMap (·.1) = ks := by rfl)
    (hdb : (x == ("__debug__" : Str)) = false := by decide) (hpl : ((backTo pos (starEach [] X.env)).any (·.1) || (backToKw pos (keywordEach kws X.env)).any (·.1.isNone)) = false := by rfl) : PE X (.Call (.Name x p) [] kws pos) (tCallG 0 ks.length mk sp E tNil tk) :=
  ⟨fun pins s σ H Q I h => wpAny_Call_Name_kw (ld_glob I hg hm (PySem.W.callWith_KW0 (h₀ := X.base) I.ok.mod.kin hk hall (
    thn (hkw.run pos pins s σ H _ I h) fun ws s2 ⟨zs, H2, I2, rz, l1, l2, q2⟩ => ⟨I2.kIn, by
      rw [hks]
      exact runG (us := []) F hr hgd hx I2 (hb.1 s2 [] ws I2.kIn rfl (by rw [← rz.length, l2])) (hb.2 .nil rz) q2⟩) hpl) hdb)⟩
theorem pg_call (F : FnG X.prog X.w X.K X.mg X.base CX k f fd ps sp) (hr : Room k X.A) (hgd : X.A.guards = some []) (hg : Gl X x) (hm : X.mg x = some (.ref f)) (hk : PySem.W.keepIn X.K (.ref f) = true) {n : Nat} (hb : BindG X.K fd ps n [] (fun us _ => us)) (hx : Passes CX X E)
    (ha : PA X (e :: es) t) (hdb : (x == ("__debug__" : Str)) = false := by decide) (he : starEach (e :: es) X.env = (false, eval e X.env) :: starEach es X.env := by rfl) (hpl : (backTo pos (starEach es X.env)).any (·.1) = false := by rfl) :
    PE X (.Call (.Name x p) (e :: es) [] pos) (tCallG n 0 (fun us _ => us) sp E t tNil) :=
  ⟨fun pins s σ H Q I h => wpAny_Call_Name_kw (ld_glob I hg hm (PySem.W.callWith_K (h₀ := X.base) I.ok.mod.kin hk (thn (ha.run pos pins s σ H _ I h) fun us s1 ⟨vs, H1, I1, r, l1, _, q⟩ =>
    ⟨I1.kIn, runG F hr hgd hx I1 (hb.1 s1 us [] I1.kIn (by rw [← r.length, l1]) rfl) r q⟩) he hpl) hdb)⟩
theorem pg_call0 (F : FnG X.prog X.w X.K X.mg X.base CX k f fd ps sp) (hr : Room k X.A) (hgd : X.A.guards = some []) (hg : Gl X x) (hm : X.mg x = some (.ref f)) (hk : PySem.W.keepIn X.K (.ref f) = true) (hb : BindG X.K fd ps 0 [] (fun us _ => us)) (hx : Passes CX X E)
    (hdb : (x == ("__debug__" : Str)) = false := by decide) : PE X (.Call (.Name x p) [] [] pos) (tCallG 0 0 (fun us _ => us) sp E tNil tNil) :=
  ⟨fun pins s σ H Q I h => wpAny_Call_Name_kw (ld_glob I hg hm (PySem.W.callWith_K0 I.kIn hk (runG (us := []) F hr hgd hx I (hb.1 s [] [] I.kIn rfl rfl) .nil h.2.2)) hdb)⟩
/-- o.m(..) -/
def tMethG (C : Addr) (m : Str) (n q : Nat) (mk : {α : Type} → List α → List α → List α) (sp : Sp) (E : XK) (ta : TE) (t tk : TA) : TE := fun σ H Q => ta σ H fun x H1 => ∃ a dx fs, x = .ref a ∧ H1 a = some (.ins C dx fs) ∧ fs.lookup m = none ∧
  t σ H1 fun vs H2 => tk σ H2 fun zs H3 => vs.length = n ∧ zs.length = q ∧ sp (x :: mk vs zs) H3 Q E
/-- how a method's call binds -/
def BindM (K : PySem.W.Frag) (fd : FuncData) (ps : List Str) (n : Nat) (ks : List Str) (mk : {α : Type} → List α → List α → List α) : Prop :=
  (∀ (s : Shared) (x : Value) (us ws : List Value), K.In s.heap → us.length = n → ws.length = ks.length → BindsTo s fd ⟨x :: us, ks.zip ws⟩ (ps.zip (x :: mk us ws))) ∧
  ∀ {vs zs : List V} {us ws : List Value}, Vals vs us → Vals zs ws → Vals (mk vs zs) (mk us ws)
theorem pg_meth {pl : Sem Bool} (he : PE X o ta) (c : Cls X.K C) (hm : Meth X.K C m f) (F : FnG X.prog X.w X.K X.mg X.base CX k f fd ps sp) (hr : Room k X.A) (hgd : X.A.guards = some []) {n : Nat} (hb : BindM X.K fd ps n [] (fun us _ => us)) (hx : Passes CX X E) (ha : PA X (e :: es) t)
    (hst : starEach (e :: es) X.env = (false, eval e X.env) :: starEach es X.env := by rfl) (hpl : (backTo pos (starEach es X.env)).any (·.1) = false := by rfl)
    (ht : eval (.Call (.Attribute o m apos) (e :: es) [] pos) X.env = (do
      let ov ← eval o X.env
      standAt apos.atName
      let (f, first) ← holding [ov] (getMethod ov m pl)
      callWith pos f first (backTo pos (starEach (e :: es) X.env)) (backToKw pos (keywordEach [] X.env))) := by rfl) :
    PE X (.Call (.Attribute o m apos) (e :: es) [] pos) (tMethG C m n 0 (fun us _ => us) sp E ta t tNil) :=
  ⟨fun pins s σ H Q I h => PySem.W.methodCall_KW (pl := pl) (thn (he.run pins s σ H _ I h) fun u s1 ⟨x, H1, I1, rx, a, dx, fs, ex, ea, l, q⟩ => by
    subst ex
    obtain rfl : u = Value.ref a := rx
    refine getmeth_ok I1 ea c hm l (PySem.W.callWith_K (first := [.ref a]) (h₀ := X.base) I.ok.mod.kin hm.kp (thn (ha.run pos pins s1 σ H1 _ I1 q) fun us s2 ⟨vs, H2, I2, r, l1, _, q2⟩ => ⟨I2.kIn, ?_⟩) hst hpl)
    exact runG F hr hgd hx I2 (hb.1 s2 (.ref a) us [] I2.kIn (by rw [← r.length, l1]) rfl) (.cons (rref _) r) q2) ht⟩
theorem pg_meth0 {pl : Sem Bool} (he : PE X o ta) (c : Cls X.K C) (hm : Meth X.K C m f) (F : FnG X.prog X.w X.K X.mg X.base CX k f fd ps sp) (hr : Room k X.A) (hgd : X.A.guards = some []) (hb : BindM X.K fd ps 0 [] (fun us _ => us)) (hx : Passes CX X E)
    (ht : eval (.Call (.Attribute o m apos) [] [] pos) X.env = (do
      let ov ← eval o X.env
      standAt apos.atName
      let (f, first) ← holding [ov] (getMethod ov m pl)
      callWith pos f first (backTo pos (starEach [] X.env)) (backToKw pos (keywordEach [] X.env))) := by rfl) :
    PE X (.Call (.Attribute o m apos) [] [] pos) (tMethG C m 0 0 (fun us _ => us) sp E ta tNil tNil) :=
  ⟨fun pins s σ H Q I h => PySem.W.methodCall_KW (pl := pl) (thn (he.run pins s σ H _ I h) fun u s1 ⟨x, H1, I1, rx, a, dx, fs, ex, ea, l, q⟩ => by
    subst ex
    obtain rfl : u = Value.ref a := rx
    exact getmeth_ok I1 ea c hm l (PySem.W.callWith_K0 (first := [.ref a]) I1.kIn hm.kp (runG F hr hgd hx I1 (hb.1 s1 (.ref a) [] [] I1.kIn rfl rfl) (.cons (rref _) .nil) q.2.2))) ht⟩
theorem pg_methK0 {pl : Sem Bool} (he : PE X o ta) (c : Cls X.K C) (hm : Meth X.K C m f) (F : FnG X.prog X.w X.K X.mg X.base CX k f fd ps sp) (hr : Room k X.A) (hgd : X.A.guards = some []) {mk : {α : Type} → List α → List α → List α} (hb : BindM X.K fd ps 0 ks mk) (hx : Passes CX X E) (hkw : PK X kws tk)
    (hall : (backToKw pos (keywordEach kws X.env)).all (·.1.isSome) = true := by rfl) (hks : (backToKw pos (keywordEach kws X.env)).filterMap (·.1) = ks := by rfl)
    (hpl : ((backTo pos (starEach [] X.env)).any (·.1) || (backToKw pos (keywordEach kws X.env)).any (·.1.isNone)) = false := by rfl)
    (ht : eval (.Call (.Attribute o m apos) [] kws pos) X.env = (do
      let ov ← eval o X.env
      standAt apos.atName
      let (f, first) ← holding [ov] (getMethod ov m pl)
      callWith pos f first (backTo pos (starEach [] X.env)) (backToKw pos (keywordEach kws X.env))) := by rfl) :
    PE X (.Call (.Attribute o m apos) [] kws pos) (tMethG C m 0 ks.length mk sp E ta tNil tk) :=
  ⟨fun pins s σ H Q I h => PySem.W.methodCall_KW (pl := pl) (thn (he.run pins s σ H _ I h) fun u s1 ⟨x, H1, I1, rx, a, dx, fs, ex, ea, l, q⟩ => by
    subst ex
    obtain rfl : u = Value.ref a := rx
    refine getmeth_ok I1 ea c hm l (PySem.W.callWith_KW0 (first := [.ref a]) (h₀ := X.base) I.ok.mod.kin hm.kp hall (thn (hkw.run pos pins s1 σ H1 _ I1 q) fun ws s2 ⟨zs, H2, I2, rz, l1, l2, q2⟩ => ⟨I2.kIn, ?_⟩) hpl)
    rw [hks]
    exact runG F hr hgd hx I2 (hb.1 s2 (.ref a) [] ws I2.kIn rfl (by rw [← rz.length, l2])) (.cons (rref _) (hb.2 .nil rz)) q2) ht⟩
/-- C(..) -/
def tMakeG (C : Addr) (n q : Nat) (mk : {α : Type} → List α → List α → List α) (sp : Sp) (E : XK) (t tk : TA) : TE := fun σ H Q => t σ H fun vs H1 => tk σ H1 fun zs H2 => vs.length = n ∧ zs.length = q ∧ ∀ x dx, H2 x = none → H2 dx = none → dx ≠ x →
  sp (.ref x :: mk vs zs) (upd (upd H2 dx (.own x)) x (.ins C dx [])) (fun v H3 => v = .non ∧ Q (.ref x) H3) E
theorem pg_make (M : Mk X.K C f) (F : FnG X.prog X.w X.K X.mg X.base CX k f fd ps sp) (hr : Room (k + 1) X.A) (hgd : X.A.guards = some []) (hg : Gl X x) (hm : X.mg x = some (.ref C)) {n : Nat} (hb : BindM X.K fd ps n [] (fun us _ => us)) (hx : Passes CX X E)
    (ha : PA X (e :: es) t) (hdb : (x == ("__debug__" : Str)) = false := by decide) (he : starEach (e :: es) X.env = (false, eval e X.env) :: starEach es X.env := by rfl) (hpl : (backTo pos (starEach es X.env)).any (·.1) = false := by rfl) :
    PE X (.Call (.Name x p) (e :: es) [] pos) (tMakeG C n 0 (fun us _ => us) sp E t tNil) :=
  ⟨fun pins s σ H Q I h => wpAny_Call_Name_kw (ld_glob I hg hm (PySem.W.callWith_K (h₀ := X.base) I.ok.mod.kin M.kp (thn (ha.run pos pins s σ H _ I h) fun us s1 ⟨vs, H1, I1, r, l1, _, q⟩ =>
    ⟨I1.kIn, makeG M F hr hgd hx I1 (fun s2 n K2 => hb.1 s2 (.ref n) us [] K2 (by rw [← r.length, l1]) rfl) r q⟩) he hpl) hdb)⟩
theorem pg_make0 (M : Mk X.K C f) (F : FnG X.prog X.w X.K X.mg X.base CX k f fd ps sp) (hr : Room (k + 1) X.A) (hgd : X.A.guards = some []) (hg : Gl X x) (hm : X.mg x = some (.ref C)) (hb : BindM X.K fd ps 0 [] (fun us _ => us)) (hx : Passes CX X E)
    (hdb : (x == ("__debug__" : Str)) = false := by decide) : PE X (.Call (.Name x p) [] [] pos) (tMakeG C 0 0 (fun us _ => us) sp E tNil tNil) :=
  ⟨fun pins s σ H Q I h => wpAny_Call_Name_kw (ld_glob I hg hm (PySem.W.callWith_K0 I.kIn M.kp (makeG (us := []) M F hr hgd hx I (fun s2 n K2 => hb.1 s2 (.ref n) [] [] K2 rfl rfl) .nil h.2.2)) hdb)⟩
theorem pg_makeK0 (M : Mk X.K C f) (F : FnG X.prog X.w X.K X.mg X.base CX k f fd ps sp) (hr : Room (k + 1) X.A) (hgd : X.A.guards = some []) (hg : Gl X x) (hm : X.mg x = some (.ref C)) {mk : {α : Type} → List α → List α → List α} (hb : BindM X.K fd ps 0 ks mk) (hx : Passes CX X E) (hkw : PK X kws tk)
    (hall : (backToKw pos (keywordEach kws X.env)).all (·.1.isSome) = true := by rfl) (hks : (backToKw pos (keywordEach kws X.env)).filterMap (·.1) = ks := by rfl) (hdb : (x == ("__debug__" : Str)) = false := by decide)
    (hpl : ((backTo pos (starEach [] X.env)).any (·.1) || (backToKw pos (keywordEach kws X.env)).any (·.1.isNone)) = false := by rfl) :
    PE X (.Call (.Name x p) [] kws pos) (tMakeG C 0 ks.length mk sp E tNil tk) :=
  ⟨fun pins s σ H Q I h => wpAny_Call_Name_kw (ld_glob I hg hm (PySem.W.callWith_KW0 (h₀ := X.base) I.ok.mod.kin M.kp hall (
    thn (hkw.run pos pins s σ H _ I h) fun ws s2 ⟨zs, H2, I2, rz, l1, l2, q2⟩ => ⟨I2.kIn, by
      rw [hks]
      exact makeG (us := []) M F hr hgd hx I2 (fun s3 n K3 => hb.1 s3 (.ref n) [] ws K3 rfl (by rw [← rz.length, l2])) (hb.2 .nil rz) q2⟩) hpl) hdb)⟩
end
end Hz
/-! Hz9: calls by trees; a def's body keeps its promise. -/
namespace Hz
open PySem L2 PyProof.Rows
def opnAll : List T → Rho → Option (List T × Rho)
  | [], ρ => some ([], ρ)
  | t :: ts, ρ => (t.opn ρ).bind fun q => (opnAll ts q.2).map fun z => (q.1 :: z.1, z.2)
def clsAll : List T → Rho → Rho → Rho
  | t :: ts, some s :: us, ρ => clsAll ts us (t.cls s ρ)
  | _ :: ts, none :: us, ρ => clsAll ts us ρ
  | _, _, ρ => ρ
/-- what the parameters that keep their values are at the end -/
def mask (p : List Nat) : Nat → Nat → Rho → Rho
  | _, 0, _ => []
  | k, n + 1, x :: ρ => (if p.contains k then x else none) :: mask p (k + 1) n ρ
  | k, n + 1, [] => none :: mask p (k + 1) n []
def startT (N : Nat) (ts : List T) : Rho := ts.map some ++ List.replicate (N - ts.length) none
section
variable {K : PySem.W.Frag} {I : Sg} {c : Ct} {ρ ρ' : Rho} {t s : T} {tm ts ss : List T} {σ : L2.St} {v : V} {vs us : List V} {F : Hp} {W : List Addr} {H : Hp}
theorem R.opens : ∀ {ts ss : List T} {ρ ρ' : Rho} {us : List V} {tm : List T} {vs : List V}, R K I c ρ (ts ++ tm) σ (us ++ vs) F W H → us.length = ts.length → opnAll ts ρ = some (ss, ρ') →
    R K I c ρ' (ss ++ tm) σ (us ++ vs) F W H ∧ ss.length = ts.length ∧ ss.all T.real = true
  | [], ss, ρ, ρ', us, tm, vs, h, hl, ho => by
    cases ho
    exact ⟨h, rfl, rfl⟩
  | t :: ts, ss, ρ, ρ', [], tm, vs, h, hl, ho => by cases hl
  | t :: ts, ss, ρ, ρ', u :: us, tm, vs, h, hl, ho => by
    have ho' : ((t.opn ρ).bind fun q => (Hz.opnAll ts q.2).map fun z => (q.1 :: z.1, z.2)) = some (ss, ρ') := ho
    cases e1 : t.opn ρ with
    | none => rw [e1] at ho'; cases ho'
    | some q =>
      rw [e1] at ho'
      cases e2 : Hz.opnAll ts q.2 with
      | none =>
        have ho2 : ((Hz.opnAll ts q.2).map fun z => (q.1 :: z.1, z.2)) = some (ss, ρ') := ho'
        rw [e2] at ho2
        cases ho2
      | some z =>
        have ho2 : ((Hz.opnAll ts q.2).map fun z => (q.1 :: z.1, z.2)) = some (ss, ρ') := ho'
        rw [e2] at ho2
        cases ho2
        obtain ⟨r1, hr⟩ := R.opn (s := q.1) (ρ' := q.2) h e1
        obtain ⟨r2, hl2, hr2⟩ := R.opens (tm := q.1 :: tm) (vs := u :: vs) (R.unmid r1 (Nat.succ.inj hl)) (Nat.succ.inj hl) e2
        exact ⟨r2.mid (by rw [hl2]; exact Nat.succ.inj hl), by rw [List.length_cons, List.length_cons, hl2], by rw [List.all_cons, hr, hr2]; rfl⟩
def OrigAll (σ : L2.St) : List T → List V → Prop
  | t :: ts, v :: vs => Orig σ t v ∧ OrigAll σ ts vs
  | _, _ => True
theorem R.origAll : ∀ {ts tm : List T} {us vs : List V}, R K I c ρ (ts ++ tm) σ (us ++ vs) F W H → us.length = ts.length → OrigAll σ ts us
  | [], tm, us, vs, h, hl => by cases us <;> trivial
  | t :: ts, tm, [], vs, h, hl => trivial
  | t :: ts, tm, u :: us, vs, h, hl => ⟨R.orig h, R.origAll (R.drop h) (Nat.succ.inj hl)⟩
/-- what comes back for an argument -/
def backT : Rho → List V → List T
  | some s :: us, _ :: vs => s :: backT us vs
  | none :: us, v :: vs => .cst v :: backT us vs
  | _, _ => []
theorem back_lst {H' : Hp} : ∀ {us : List V} {os : Rho} {f : List Addr}, Lst (RepS K F W H') (us.map some) os f → Lst (Rep K F W H') us (backT os us) f
  | [], os, f, h => by cases h; exact .nil
  | u :: us, os, f, h => by
    cases h with
    | cons h1 h2 p =>
      cases h1 with
      | non => exact .cons .cst (back_lst h2) p
      | som h1 => exact .cons h1 (back_lst h2) p
theorem R.closes : ∀ {ts : List T} {us : List V} {os ρ : Rho}, R K I c ρ (backT os us ++ tm) σ (us ++ vs) F W H → OrigAll σ ts us → us.length = ts.length → os.length = us.length → (∀ s ∈ backT os us, s.real = true) → R K I c (clsAll ts os ρ) tm σ vs F W H
  | [], [], [], ρ, h, _, _, _, _ => h
  | [], [], _ :: _, ρ, h, _, _, e, _ => by cases e
  | [], _ :: _, _, ρ, h, _, e, _, _ => by cases e
  | _ :: _, [], _, ρ, h, _, e, _, _ => by cases e
  | t :: ts, u :: us, [], ρ, h, _, _, e, _ => by cases e
  | t :: ts, u :: us, some s :: os, ρ, h, ho, e1, e2, hr => R.closes (ts := ts) (us := us) (os := os) (R.clsT (t := t) h (hr s List.mem_cons_self) ho.1) ho.2 (Nat.succ.inj e1) (Nat.succ.inj e2) fun x hx => hr x (List.mem_cons_of_mem _ hx)
  | t :: ts, u :: us, none :: os, ρ, h, ho, e1, e2, hr => R.closes (ts := ts) (us := us) (os := os) (R.drop (t := .cst u) (v := u) h) ho.2 (Nat.succ.inj e1) (Nat.succ.inj e2) fun x hx => hr x (List.mem_cons_of_mem _ hx)
/-- the value on top alone -/
theorem R.only : ∀ {tm : List T} {vs : List V}, R K I c ρ (t :: tm) σ (v :: vs) F W H → R K I c ρ [t] σ [v] F W H := fun {tm vs} h => by
  obtain ⟨f1, f2, h1, h2, nd, st⟩ := h.ex
  cases h1 with
  | cons j1 j2 q =>
    rename_i a1 a2
    have pm : (f1 ++ f2).Perm ((a1 ++ f2) ++ a2) := by
      refine (q.append_right f2).trans ?_
      rw [List.append_assoc, List.append_assoc]
      exact List.perm_append_comm.append_left a1
    have nd' := nodup_of_perm pm nd
    exact ⟨⟨a1, f2, .one j1, h2, nd'.sublist (List.sublist_append_left _ _), (st.perm (.refl _) pm).less fun a ha => List.mem_append_left _ ha⟩, h.pr⟩

theorem back_real {F W H} : ∀ {us : List V} {os : List T} {f : List Addr}, Lst (Rep K F W H) us os f → ∀ s ∈ os, s.real = true
  | _, _, _, .nil, s, hs => by cases hs
  | _, _, _, .cons h1 h2 _, s, hs => by
    rcases List.mem_cons.mp hs with rfl | hs
    · exact rep_real h1
    · exact back_real h2 s hs
/-- THE CALL: what a callee does with what is at hand -/
theorem R.callG {Wf : SpT} {E : XK} {Q : VK} {post : T → Rho → Prop} {ep : Addr → T → Rho → Prop} (h : R K I c ρ (ts ++ tm) σ (us ++ vs) F W H) (hl : us.length = ts.length) (ho : opnAll ts ρ = some (ss, ρ')) (hW : Wf ss post ep)
    (k : ∀ t os v F' W' H', t.real = true → os.length = us.length → (∀ s ∈ backT os us, s.real = true) → R K I c ρ' (t :: (backT os us ++ tm)) σ (v :: (us ++ vs)) F' W' H' → post t os → Q v H')
    (kx : ∀ C t os v d F' W' H', t.real = true → os.length = us.length → (∀ s ∈ backT os us, s.real = true) → R K I c ρ' (t :: (backT os us ++ tm)) σ (v :: (us ++ vs)) F' W' H' → H' d = some (.xd [("value", v)]) → ep C t os → E (.ref C) (some d) H') : spT K I.inv Wf us H Q E := by
  obtain ⟨r1, hl1, hr1⟩ := R.opens h hl ho
  obtain ⟨fA, hA, nd, wf, q⟩ := r1.loc (by rw [hl1]; exact hl)
  have back : ∀ {t : T} {os : Rho} {v : V} {fp' : List Addr} {F' : Hp} {W' : List Addr} {H' : Hp}, Lst (RepS K F' W' H') (some v :: us.map some) (some t :: os) fp' → fp'.Nodup → Step I.inv F W H fA F' W' H' fp' →
      t.real = true ∧ os.length = us.length ∧ (∀ s ∈ backT os us, s.real = true) ∧ R K I c ρ' (t :: (backT os us ++ tm)) σ (v :: (us ++ vs)) F' W' H' := fun {t os v fp' F' W' H'} hL hn hs => by
    have hlen : os.length = us.length := by
      have := hL.len
      rw [List.length_cons, List.length_cons, List.length_map] at this
      omega
    cases hL with
    | cons j1 j2 p =>
      cases j1 with
      | som j1 =>
        have b := back_lst j2
        exact ⟨rep_real j1, hlen, back_real b, q (us' := v :: us) (ts' := t :: backT os us) (hs.perm (.refl _) p) (nodup_of_perm p hn) (.cons (.of j1) (repT_reps b) (.refl _))⟩
  refine ⟨ss, fA, F, W, post, ep, repA_iff.mp (lst_real hA hr1), nd, wf, hW, fun t os v fp' F' W' H' hL hn hs hp => ?_, fun C t os v d fp' F' W' H' hL hn hs hd hp => ?_⟩
  · obtain ⟨e0, e1, e2, r2⟩ := back hL hn hs
    exact k _ _ _ _ _ _ e0 e1 e2 r2 hp
  · obtain ⟨e0, e1, e2, r2⟩ := back hL hn hs
    exact kx _ _ _ _ _ _ _ _ e0 e1 e2 r2 hd hp
theorem back_len : ∀ {os : Rho} {us : List V}, os.length = us.length → (backT os us).length = us.length
  | [], [], _ => rfl
  | some s :: os, u :: us, h => by
    show (backT os us).length + 1 = us.length + 1
    rw [back_len (Nat.succ.inj h)]
  | none :: os, u :: us, h => by
    show (backT os us).length + 1 = us.length + 1
    rw [back_len (Nat.succ.inj h)]
  | [], _ :: _, h => by cases h
  | _ :: _, [], h => by cases h
theorem R.call {Wf : SpT} {E : XK} {Q : VK} {Qx : WX} {Qv : T → Rho → Prop} (h : R K I c ρ (ts ++ tm) σ (us ++ vs) F W H) (hl : us.length = ts.length) (hx : XOk K I c E Qx) (ho : opnAll ts ρ = some (ss, ρ'))
    (hW : Wf ss (fun t os => os.length = ts.length → Qv t (Hz.clsAll ts os ρ')) (fun C t os => os.length = ts.length → Qx C t (Hz.clsAll ts os ρ')))
    (k : ∀ t ρ' v F' W' H', R K I c ρ' (t :: tm) σ (v :: vs) F' W' H' → Qv t ρ' → Q v H') : spT K I.inv Wf us H Q E := by
  have hor := R.origAll h hl
  refine R.callG h hl ho hW (fun t os v F' W' H' e0 e1 e2 r2 hp => ?_) fun C t os v d F' W' H' e0 e1 e2 r2 hd hp => ?_
  · exact k _ _ _ _ _ _ (R.closes (R.unmid r2 (back_len e1).symm) hor hl e1 e2) (hp (by omega))
  · exact hx _ _ _ _ _ _ _ _ _ (R.closes (R.unmid r2 (back_len e1).symm) hor hl e1 e2).only e0 hd (hp (by omega))
end

/-! ### calls by trees -/
def wFn (Wf : SpT) (ts : List T) (ρ : Rho) (Qx : WX) (Q : T → Rho → Prop) : Prop :=
  ∃ ss ρ', opnAll ts ρ = some (ss, ρ') ∧ Wf ss (fun t os => os.length = ts.length → Q t (clsAll ts os ρ')) (fun C t os => os.length = ts.length → Qx C t (clsAll ts os ρ'))
def wCall (n m : Nat) (mk : {α : Type} → List α → List α → List α) (Wf : SpT) (a k : WA) : WE := fun ρ Qx Q => a ρ Qx fun ts ρ1 => k ρ1 Qx fun us ρ2 => ts.length = n ∧ us.length = m ∧ wFn Wf (mk ts us) ρ2 Qx Q
def wMeth (C : Addr) (m : Str) (n q : Nat) (mk : {α : Type} → List α → List α → List α) (Wf : SpT) (o : WE) (a k : WA) : WE := fun ρ Qx Q => o ρ Qx fun t ρ0 => (∃ ns xs, t.peek ρ0 = some (.ins C ns xs) ∧ fpos ns m = none) ∧
  a ρ0 Qx fun ts ρ1 => k ρ1 Qx fun us ρ2 => ts.length = n ∧ us.length = q ∧ wFn Wf (t :: mk ts us) ρ2 Qx Q
/-- what __init__ leaves: nothing is handed back, its instance stands -/
def madeT (ts us : List T) (mk : {α : Type} → List α → List α → List α) (ρ : Rho) (Q : T → Rho → Prop) : T → Rho → Prop := fun t os => match os with
  | some s :: or => or.length = (mk ts us).length → t = tN ∧ Q s (clsAll (mk ts us) or ρ)
  | _ => False
def madeX (ts us : List T) (mk : {α : Type} → List α → List α → List α) (ρ : Rho) (Qx : WX) : WX := fun C t os => match os with
  | _ :: or => or.length = (mk ts us).length → Qx C t (clsAll (mk ts us) or ρ)
  | _ => False
def wMake (C : Addr) (n q : Nat) (mk : {α : Type} → List α → List α → List α) (Wf : SpT) (a k : WA) : WE := fun ρ Qx Q => a ρ Qx fun ts ρ1 => k ρ1 Qx fun us ρ2 => ts.length = n ∧ us.length = q ∧
  ∃ ss ρ', opnAll (mk ts us) ρ2 = some (ss, ρ') ∧ Wf (.ins C [] [] :: ss) (madeT ts us mk ρ' Q) (madeX ts us mk ρ' Qx)
/-- values in another order: mk takes those by position and those by name -/
def MkOk (mk : {α : Type} → List α → List α → List α) (n m : Nat) : Prop :=
  ∀ (P : V → T → List Addr → Prop) {us zs : List V} {ts ks : List T} {f g : List Addr}, us.length = n → zs.length = m → Lst P us ts f → Lst P zs ks g → ∃ h, Lst P (mk us zs) (mk ts ks) h ∧ (f ++ g).Perm h
section
variable {K : PySem.W.Frag} {I : Sg} {E : XK} {ta tl tk : TA} {wa wk : WA} {to : TE} {wo : WE} {n m : Nat} {mk : {α : Type} → List α → List α → List α} {Wf : SpT}
theorem mk_pos : MkOk (fun us _ => us) n 0 := fun P us zs ts ks f g _ h h1 h2 => by
  have : zs = [] := List.eq_nil_of_length_eq_zero h
  subst this
  cases h2
  exact ⟨f, h1, by rw [List.append_nil]⟩
theorem mk_app : MkOk (fun us zs => us ++ zs) n m := fun P us zs ts ks f g _ _ h1 h2 => ⟨f ++ g, h1.app h2, .refl _⟩
theorem R.arr {c : Ct} {ρ : Rho} {ts ks tm : List T} {σ : L2.St} {us zs vs : List V} {F : Hp} {W : List Addr} {H : Hp} (hk : MkOk mk n m) (h : R K I c ρ (ks ++ (ts ++ tm)) σ (zs ++ (us ++ vs)) F W H) (l1 : us.length = ts.length) (l2 : zs.length = ks.length) (ln : us.length = n) (lm : zs.length = m) :
    R K I c ρ (mk ts ks ++ tm) σ (mk us zs ++ vs) F W H ∧ (mk us zs).length = (mk ts ks).length := by
  obtain ⟨f1, f2, h1, h2, nd, s⟩ := h.ex
  obtain ⟨g1, g2, p, i1, i2⟩ := h1.cut l2
  obtain ⟨g3, g4, p2, i3, i4⟩ := i2.cut l1
  obtain ⟨hh, i5, p3⟩ := hk _ ln lm i3 i1
  refine ⟨⟨⟨f1, f2, (i5.app i4).perm ?_, h2, nd, s⟩, h.pr⟩, i5.len⟩
  refine List.Perm.symm (p.trans ((p2.append_left g1).trans ?_))
  rw [← List.append_assoc]
  exact (List.perm_append_comm.trans p3).append_right g4
theorem ev_call (hk : MkOk mk n m) (ha : EvA K I E tl wa) (hkw : EvA K I E tk wk) : EvW K I E (tCallG n m mk (spT K I.inv Wf) E tl tk) (wCall n m mk Wf wa wk) := fun c ρ tm σ vs F W H r Qx Qv hx hw Q k =>
  ha c ρ tm σ vs F W H r Qx _ hx hw _ fun ts us ρ1 F1 W1 H1 r1 e1 q1 => hkw c ρ1 (ts ++ tm) σ (us ++ vs) F1 W1 H1 r1 Qx _ hx q1 _ fun ks zs ρ2 F2 W2 H2 r2 e2 ⟨l1, l2, ss, ρ3, ho, hW⟩ => by
    obtain ⟨r3, e3⟩ := R.arr hk r2 e1 e2 (by omega) (by omega)
    exact ⟨by omega, by omega, r3.call e3 hx ho hW k⟩
theorem ev_meth {C : Addr} {m' : Str} (hk : MkOk mk n m) (ho : EvW K I E to wo) (ha : EvA K I E tl wa) (hkw : EvA K I E tk wk) : EvW K I E (tMethG C m' n m mk (spT K I.inv Wf) E to tl tk) (wMeth C m' n m mk Wf wo wa wk) := fun c ρ tm σ vs F W H r Qx Qv hx hw Q k =>
  ho c ρ tm σ vs F W H r Qx _ hx hw _ fun t ρ0 x F0 W0 H0 r0 ⟨⟨ns, xs, hp, hn⟩, q0⟩ => by
    obtain ⟨f, hr, _⟩ := r0.peek hp
    cases hr with
    | ins h1 h0 hA p =>
      rename_i a dx us0 fps
      refine ⟨a, dx, _, rfl, h1, by rw [lookup_zip h0, hn]; rfl, ?_⟩
      refine ha c ρ0 (t :: tm) σ (.ref a :: vs) F0 W0 H0 r0 Qx _ hx q0 _ fun ts us ρ1 F1 W1 H1 r1 e1 q1 => hkw c ρ1 (ts ++ t :: tm) σ (us ++ .ref a :: vs) F1 W1 H1 r1 Qx _ hx q1 _ fun ks zs ρ2 F2 W2 H2 r2 e2 ⟨l1, l2, ss, ρ3, hop, hW⟩ => ?_
      obtain ⟨r3, e3⟩ := R.arr hk r2 e1 e2 (by omega) (by omega)
      exact ⟨by omega, by omega, R.call (ts := t :: mk ts ks) (us := .ref a :: mk us zs) (r3.mid e3) (by rw [List.length_cons, List.length_cons, e3]) hx hop hW k⟩
theorem Step.beside {inv : HO → Prop} {F : Hp} {W : List Addr} {H : Hp} {fp : List Addr} {p : Addr} {o : HO} (w : Hz.Wf inv F W H fp) (hp : H p = none) : Step inv F W H fp F W (L2.upd H p o) fp :=
  (Step.alloc (o := o) w hp).less fun a ha => List.mem_cons_of_mem _ ha
theorem ev_make {C : Addr} (hk : MkOk mk n m) (ha : EvA K I E tl wa) (hkw : EvA K I E tk wk) : EvW K I E (tMakeG C n m mk (spT K I.inv Wf) E tl tk) (wMake C n m mk Wf wa wk) := fun c ρ tm σ vs F W H r Qx Qv hx hw Q k =>
  ha c ρ tm σ vs F W H r Qx _ hx hw _ fun ts us ρ1 F1 W1 H1 r1 e1 q1 => hkw c ρ1 (ts ++ tm) σ (us ++ vs) F1 W1 H1 r1 Qx _ hx q1 _ fun ks zs ρ2 F2 W2 H2 r2 e2 ⟨l1, l2, ss, ρ3, ho, hW⟩ => by
    obtain ⟨r3, e3⟩ := R.arr hk r2 e1 e2 (by omega) (by omega)
    refine ⟨by omega, by omega, fun x dx hx0 hd0 hne => ?_⟩
    -- the new instance under the arguments
    obtain ⟨fN, hN, ndN, wfN, kN⟩ := R.loc (ts := []) (us := []) r3 rfl
    cases hN
    have s1 := Step.beside (o := .own x) wfN hd0
    have hx1 : upd H2 dx (.own x) x = none := by rw [upd_ne (fun e => hne e.symm)]; exact hx0
    have s2 := Step.alloc (o := .ins C dx []) s1.wf hx1
    have r4 := kN (us' := [.ref x]) (ts' := [.ins C [] []]) (s1.trans s2) (List.nodup_cons.mpr ⟨fun z => (nomatch z), .nil⟩) (.one (.of (.ins (ns := []) (vs := []) (by rw [upd_same]; rfl) rfl .nil (.refl _))))
    have r5 := r4
    refine R.callG (ts := .ins C [] [] :: mk ts ks) (us := .ref x :: mk us zs) (ss := .ins C [] [] :: ss) (ρ' := ρ3) r5 (by rw [List.length_cons, List.length_cons, e3]) (by
      show (((T.ins C [] []).opn ρ2).bind fun q => (Hz.opnAll (mk ts ks) q.2).map fun z => (q.1 :: z.1, z.2)) = _
      show (Hz.opnAll (mk ts ks) ρ2).map (fun z => (T.ins C [] [] :: z.1, z.2)) = _
      rw [ho]
      rfl) hW (fun t os v F' W' H' e0 e4 e5 r6 hp => ?_) fun D t os v d F' W' H' e0 e4 e5 r6 hd hp => ?_
    · match os, e4 with
      | some s :: or, e4 =>
        have e6 : or.length = (mk us zs).length := Nat.succ.inj e4
        obtain ⟨et, q⟩ := hp (by rw [e6, e3])
        subst et
        have dv := r6.topDat
        cases dv
        refine ⟨rfl, k _ _ _ _ _ _ (R.closes (R.unmid (ts := backT or (mk us zs)) (us := mk us zs) r6.drop (back_len e6).symm) (R.origAll r3 e3) e3 e6 fun y hy => e5 y (List.mem_cons_of_mem _ hy)) q⟩
      | none :: or, e4 => exact hp.elim
    · match os, e4 with
      | o :: or, e4 =>
        have e6 : or.length = (mk us zs).length := Nat.succ.inj e4
        have q := hp (by rw [e6, e3])
        have e7 : ∃ s, backT (o :: or) (.ref x :: mk us zs) = s :: backT or (mk us zs) := by cases o <;> exact ⟨_, rfl⟩
        obtain ⟨s, e7⟩ := e7
        rw [e7] at r6 e5
        have r7 := R.drop (R.mid (ts := [t]) (us := [v]) r6 rfl)
        exact hx _ _ _ _ _ _ _ _ _ (R.closes (R.unmid (ts := backT or (mk us zs)) (us := mk us zs) r7 (back_len e6).symm) (R.origAll r3 e3) e3 e6 fun y hy => e5 y (List.mem_cons_of_mem _ hy)).only e0 hd q
end
end Hz
/-! Hz10: a def's body keeps its promise by trees; the law's own call. -/
namespace Hz
open PySem L2 PyProof.Rows
section
variable {K : PySem.W.Frag} {F : Hp} {W : List Addr} {H : Hp}
theorem mask_lst {p : List Nat} : ∀ (n k : Nat) {σ : L2.St} {ρ : Rho} {f : List Addr} {vs : List V}, Lst (RepS K F W H) σ ρ f → vs.length = n → (∀ i, i < n → p.contains (k + i) = true → σ[i]? = (vs.map some)[i]?) →
    ∃ g l, Lst (RepS K F W H) (vs.map some) (mask p k n ρ) g ∧ f.Perm (g ++ l)
  | 0, k, σ, ρ, f, vs, h, hl, _ => by
    have e : vs = [] := List.eq_nil_of_length_eq_zero hl
    subst e
    exact ⟨[], f, .nil, .refl _⟩
  | n + 1, k, σ, ρ, f, [], h, hl, _ => by cases hl
  | n + 1, k, [], [], f, v :: vs, h, hl, hp => by
    cases h
    obtain ⟨g, l, h1, h2⟩ := mask_lst (p := p) n (k + 1) (σ := []) (ρ := []) (f := []) (vs := vs) .nil (Nat.succ.inj hl) (fun i hi hc => by
      have := hp (i + 1) (Nat.succ_lt_succ hi) (by rw [show k + (i + 1) = k + 1 + i by omega]; exact hc)
      simpa using this)
    exact ⟨g, l, .cons (f1 := []) .non h1 (.refl _), h2⟩
  | n + 1, k, [], _ :: _, f, v :: vs, h, hl, hp => by cases h
  | n + 1, k, _ :: _, [], f, v :: vs, h, hl, hp => by cases h
  | n + 1, k, y :: σ, x :: ρ, f, v :: vs, h, hl, hp => by
    cases h with
    | cons h1 h2 q =>
      rename_i f1 f2
      obtain ⟨g, l, h3, h4⟩ := mask_lst (p := p) n (k + 1) (vs := vs) h2 (Nat.succ.inj hl) (fun i hi hc => by
        have := hp (i + 1) (Nat.succ_lt_succ hi) (by rw [show k + (i + 1) = k + 1 + i by omega]; exact hc)
        simpa using this)
      show ∃ g l, Lst (RepS K F W H) (some v :: vs.map some) ((if p.contains k then x else none) :: mask p (k + 1) n ρ) g ∧ f.Perm (g ++ l)
      by_cases hc : p.contains k = true
      · have e := hp 0 (Nat.succ_pos _) hc
        have e' : y = some v := by simpa using e
        subst e'
        rw [if_pos hc]
        exact ⟨f1 ++ g, l, .cons h1 h3 (.refl _), q.trans ((h4.append_left f1).trans (by rw [List.append_assoc]))⟩
      · rw [if_neg hc]
        refine ⟨g, f1 ++ l, .cons (f1 := []) .non h3 (.refl _), q.trans ((h4.append_left f1).trans ?_)⟩
        rw [← List.append_assoc, ← List.append_assoc]
        exact List.perm_append_comm.append_right l
theorem start_lst : ∀ {N : List Str} {ts : List T} {vs : List V} {f : List Addr}, Lst (Rep K F W H) vs ts f → Lst (RepS K F W H) (L2.start N vs) (startT N.length ts) f := fun {N ts vs f} h => by
  have e := h.len
  have h1 : ∀ {vs : List V} {ts : List T} {f : List Addr}, Lst (Rep K F W H) vs ts f → Lst (RepS K F W H) (vs.map some) (ts.map some) f := by
    intro vs ts f h
    induction h with
    | nil => exact .nil
    | cons a _ q ih => exact .cons (.som a) ih q
  have h2 : ∀ n : Nat, Lst (RepS K F W H) (List.replicate n none) (List.replicate n none) [] := by
    intro n
    induction n with
    | zero => exact .nil
    | succ n ih => exact .cons (f1 := []) .non ih (.refl _)
  unfold L2.start startT
  rw [← e]
  have := (h1 h).app (h2 (N.length - vs.length))
  rwa [List.append_nil] at this
end
def outO (p : List Nat) (n : Nat) (post : T → Rho → Prop) : WO := ⟨fun ρ => post tN (mask p 0 n ρ), fun t ρ => post t (mask p 0 n ρ), fun _ => False, fun _ => False⟩
def outX (p : List Nat) (n : Nat) (ep : Addr → T → Rho → Prop) : WX := fun C t ρ => ep C t (mask p 0 n ρ)
/-- the body, run at its parameters' trees -/
theorem body_T {K : PySem.W.Frag} {inv : HO → Prop} {W : SpT} {prot : List Nat} {N : List Str} {n : Nat} {E : XK} {t : TS} {ws : WS} {vs : List V} {H : Hp} {Q : VK} (hs : SvW K ⟨inv, prot⟩ E t ws) (hn : vs.length = n) (hN : n ≤ N.length)
    (hw : ∀ ts post ep, W ts post ep → ts.length = n → ws (outO prot n post) (outX prot n ep) (startT N.length ts)) (h : spT K inv W vs H Q E) : t { nx := fun _ H' => Q .non H', rt := Q } (L2.start N vs) H := by
  obtain ⟨ts, fp, F, Wl, post, ep, hL, nd, wf, hW, kk, kx⟩ := h
  have hl := hL.len
  have st : ∀ i, i < n → (L2.start N vs)[i]? = (vs.map some)[i]? := fun i hi => by
    unfold L2.start
    rw [List.getElem?_append_left (by rw [List.length_map]; omega)]
  have r : R K ⟨inv, prot⟩ ⟨H, F, Wl, fp, L2.start N vs⟩ (startT N.length ts) [] (L2.start N vs) [] F Wl H := ⟨⟨[], fp, .nil, start_lst hL, nd, Step.refl wf⟩, fun _ _ => rfl⟩
  have out : ∀ {t : T} {ρ : Rho} {σ : L2.St} {v : V} {F' : Hp} {W' : List Addr} {H' : Hp}, R K ⟨inv, prot⟩ ⟨H, F, Wl, fp, L2.start N vs⟩ ρ [t] σ [v] F' W' H' → t.real = true →
      ∃ fp', Lst (RepS K F' W' H') (some v :: vs.map some) (some t :: mask prot 0 n ρ) fp' ∧ fp'.Nodup ∧ Step inv F Wl H fp F' W' H' fp' := fun {t ρ σ v F' W' H'} r ht => by
    obtain ⟨f1, f2, h1, h2, nd, s⟩ := r.ex
    obtain ⟨g, l, h3, h4⟩ := mask_lst (p := prot) n 0 h2 hn (fun i hi hc => by
      rw [Nat.zero_add] at hc
      rw [r.pr i (List.contains_iff_mem.mp hc)]
      exact st i hi)
    cases h1 with
    | cons j1 j2 q =>
      cases j2
      rename_i a1
      rw [List.append_nil] at q
      have pm : (f1 ++ f2).Perm ((a1 ++ g) ++ l) := (q.append_right f2).trans ((h4.append_left a1).trans (by rw [List.append_assoc]))
      exact ⟨a1 ++ g, .cons (.som (j1.real ht)) h3 (.refl _), (nodup_of_perm pm nd).sublist (List.sublist_append_left _ _), (s.perm (.refl _) pm).less fun a ha => List.mem_append_left _ ha⟩
  refine hs _ _ [] _ [] F Wl H r (fun _ z => nomatch z) (outO prot n post) (outX prot n ep) _ ?_ ?_ (hw ts post ep hW (by omega))
  · intro C t ρ σ v d F' W' H' r ht hd hp
    obtain ⟨fp', h1, h2, h3⟩ := out r ht
    exact kx _ _ _ _ _ _ _ _ _ h1 h2 h3 hd hp
  · refine ⟨fun ρ σ F' W' H' r hp => ?_, fun t ρ σ v F' W' H' r ht hp => ?_, fun _ _ _ _ _ _ z => z, fun _ _ _ _ _ _ z => z⟩
    · obtain ⟨fp', h1, h2, h3⟩ := out (r.dat (v := .non) (d := .none) .non) rfl
      exact kk _ _ _ _ _ _ _ h1 h2 h3 hp
    · obtain ⟨fp', h1, h2, h3⟩ := out r ht
      exact kk _ _ _ _ _ _ _ h1 h2 h3 hp
end Hz
/-! Hz11: a def of the text and its promise (nothing is being shown around it); the law's call from outside. -/
namespace Hz
open PySem L2 PyProof.Rows
/-- from a def's body to its promise, where no repr is under way -/
theorem fnG_of {CX : CXT} {P : Program} {w : World} {K : PySem.W.Frag} {mg : Str → Option Value} {base : Heap} {k : Nat} {f : Addr} {x qual : Str} {st : Stmt} {fd : FuncData} {N ps : List Str} {sp : Sp} (F : Fun K x qual st f fd) (S : FnScope N ps (defScope st))
    (len : ∀ vs H Q E, sp vs H Q E → vs.length = ps.length)
    (hbody : ∀ (cdv : Value) (A : Around) (outer : List PySem.Env) (s : Shared) (H : Hp) (vs : List V) (Q : VK) (E : XK), Room k (A.deeper (envOfC qual (defScope st) s.heap.objs.size f cdv)) → A.guards = some [] → sp vs H Q E →
      ∃ t, PSs (cxOf CX P w K mg base N qual (defScope st) f cdv A outer s H E) (defBody st) t ∧ t { nx := fun _ H' => Q .non H', rt := Q } (L2.start N vs) H) : FnG P w K mg base CX (k + 1) f fd ps sp := by
  obtain ⟨oc, od, kV, doc, pm, an, cdv, ct, osl, rfl, lk, hcd⟩ := F.ex
  refine ⟨len, fun A outer s H args us vs Q E hr hgd e0 hb r hsp => ?_⟩
  have KX : K.In s.heap := PySem.W.Frag.In.keeps e0.mod.kin fun b o e => (e0.bs b o e).1
  have lim : s.heap.NoLimit := Heap.NoLimit.keeps e0.mod.nolimit fun b o e => (e0.bs b o e).1
  have kinds : ∀ y ∈ ps.zip us, (defScope st).names.lookup y.1 = some .local ∨ ((defScope st).names.lookup y.1 = some .cell ∧ ((cellsFrom (s.heap.objs.size + 1) (defScope st).names []).lookup y.1).isSome = true) := by
    rintro ⟨n, v⟩ hy
    exact (S.par n (List.of_mem_zip hy).1).elim .inl fun q => .inr ⟨q, PySem.W.cellsFrom_some _ _ _ (.inl q)⟩
  apply codeAny_call_function hr.depth (KX _ _ lk) rfl S.co S.gen rfl (PySem.W.codeRec_of KX hcd) (hb _ _ _ _ _)
  apply wpAny_newFunctionEnv_cells S.kind kinds
  intro env he s1 inCall
  subst he
  have room := hr.deeper (envOfC qual (defScope st) s.heap.objs.size f cdv)
  obtain ⟨t, ht, hq⟩ := hbody cdv A outer s H vs Q E room hgd hsp
  have J := inv_start (CX := CX) (w := w) (mg := mg) (base := base) (E := E) S hr.hd e0 (len _ _ _ _ hsp) r inCall
  refine ⟨lim.keeps inCall.toInCall.keep, codeAny_func (wpAny_mono (ht.run [] s1 (L2.start N vs) H _ J hq) (fun fl s' hs => ?_) fun _ _ z => z)⟩
  cases fl with
  | ret u =>
    obtain ⟨v, σ', H', J', rv, q⟩ := hs
    exact ⟨v, H', J'.os, J'.bare, J'.base, J'.hok, rv, q⟩
  | next =>
    obtain ⟨σ', H', J', q⟩ := hs
    exact ⟨.non, H', J'.os, J'.bare, J'.base, J'.hok, rfl, q⟩
  | brk => exact hs.elim fun _ z => z.elim fun _ z => False.elim z.2
  | cont => exact hs.elim fun _ z => z.elim fun _ z => False.elim z.2
/-- THE RULE for a def that lets no error out -/
theorem fn_T {P : Program} {w : World} {K : PySem.W.Frag} {mg : Str → Option Value} {base : Heap} {k : Nat} {f : Addr} {x qual : Str} {st : Stmt} {fd : FuncData} {N ps : List Str} {inv : HO → Prop} {W : SpT} (prot : List Nat) (F : Fun K x qual st f fd) (S : FnScope N ps (defScope st))
    (hlen : ∀ ts post ep, W ts post ep → ts.length = ps.length)
    (hbody : ∀ (cdv : Value) (A : Around) (outer : List PySem.Env) (s : Shared) (H : Hp) (E : XK), Room k (A.deeper (envOfC qual (defScope st) s.heap.objs.size f cdv)) → (A.deeper (envOfC qual (defScope st) s.heap.objs.size f cdv)).guards = some [] →
      ∃ t ws, PSs (cxOf CX0 P w K mg base N qual (defScope st) f cdv A outer s H E).nox (defBody st) t ∧ SvW K ⟨inv, prot⟩ E t ws ∧
        ∀ ts post ep, W ts post ep → ts.length = ps.length → ws (outO prot ps.length post) (outX prot ps.length ep) (startT N.length ts)) : FnG P w K mg base CX0 (k + 1) f fd ps (spT K inv W) := by
  have len : ∀ vs H Q E, spT K inv W vs H Q E → vs.length = ps.length := fun vs H Q E h => by
    obtain ⟨ts, fp, F, Wl, post, ep, hL, _, _, hW, _⟩ := h
    rw [hL.len]
    exact hlen ts post ep hW
  refine fnG_of F S len fun cdv A outer s H vs Q E hr hg h => ?_
  obtain ⟨t, ws, h1, h2, h3⟩ := hbody cdv A outer s H E hr hg
  have hN : ps.length ≤ N.length := by
    have := congrArg List.length S.pre
    rw [List.length_take] at this
    omega
  exact ⟨t, h1.nox, body_T h2 (len _ _ _ _ h) hN h3 h⟩
/-- .. that may let one out -/
theorem fn_TX {P : Program} {w : World} {K : PySem.W.Frag} {mg : Str → Option Value} {base : Heap} {k : Nat} {f : Addr} {x qual : Str} {st : Stmt} {fd : FuncData} {N ps : List Str} {inv : HO → Prop} {W : SpT} (prot : List Nat) (F : Fun K x qual st f fd) (S : FnScope N ps (defScope st))
    (hlen : ∀ ts post ep, W ts post ep → ts.length = ps.length)
    (hbody : ∀ (cdv : Value) (A : Around) (outer : List PySem.Env) (s : Shared) (H : Hp) (E : XK), Room k (A.deeper (envOfC qual (defScope st) s.heap.objs.size f cdv)) → (A.deeper (envOfC qual (defScope st) s.heap.objs.size f cdv)).guards = some [] →
      ∃ t ws, PSs (cxOf (L2.CX P w) P w K mg base N qual (defScope st) f cdv A outer s H E) (defBody st) t ∧ SvW K ⟨inv, prot⟩ E t ws ∧
        ∀ ts post ep, W ts post ep → ts.length = ps.length → ws (outO prot ps.length post) (outX prot ps.length ep) (startT N.length ts)) : FnG P w K mg base (L2.CX P w) (k + 1) f fd ps (spT K inv W) := by
  have len : ∀ vs H Q E, spT K inv W vs H Q E → vs.length = ps.length := fun vs H Q E h => by
    obtain ⟨ts, fp, F, Wl, post, ep, hL, _, _, hW, _⟩ := h
    rw [hL.len]
    exact hlen ts post ep hW
  refine fnG_of F S len fun cdv A outer s H vs Q E hr hg h => ?_
  obtain ⟨t, ws, h1, h2, h3⟩ := hbody cdv A outer s H E hr hg
  have hN : ps.length ≤ N.length := by
    have := congrArg List.length S.pre
    rw [List.length_take] at this
    omega
  exact ⟨t, h1, body_T h2 (len _ _ _ _ h) hN h3 h⟩

/-! ### the law's call -/
/-- what a law asks: True of every script of at most n ints -/
def lawW (n : Nat) : SpT := fun ts post _ => ∃ ns : List Int, ts = [.dat (.list (ns.map .int))] ∧ ns.length ≤ n ∧ post (tBo true) [none]
/-- the heap in which nothing but the script is known -/
def onlyH (K : PySem.W.Frag) (a : Addr) (vs : List Value) (ns : List Int) : Hp := fun b => if b = a ∧ (K.lookup a).isSome = false then some (.frz { cls := .type "list", data := .seq vs.toArray } (.lst (ns.map V.int))) else none
theorem onlyH_eq {K : PySem.W.Frag} {a b : Addr} {vs : List Value} {ns : List Int} {u : HO} (h : onlyH K a vs ns b = some u) : b = a ∧ K.lookup a = none ∧ u = .frz { cls := .type "list", data := .seq vs.toArray } (.lst (ns.map V.int)) := by
  unfold onlyH at h
  by_cases q : b = a ∧ (K.lookup a).isSome = false
  · rw [if_pos q] at h
    cases h
    refine ⟨q.1, ?_, rfl⟩
    cases e : K.lookup a with
    | none => rfl
    | some o => rw [e] at q; cases q.2
  · rw [if_neg q] at h
    cases h
theorem dp_ints {K : PySem.W.Frag} {F : Hp} : ∀ ns : List Int, DpAll K F (ns.map V.int) (ns.map .int)
  | [] => .nil
  | n :: ns => .cons (.int n) (dp_ints ns)
theorem lawG_call {P : Program} {w : World} {K : PySem.W.Frag} {mg mb : Str → Option Value} {k n : Nat} {fa a : Addr} {fd : FuncData} {x : Str} {inv : HO → Prop} {s₁ : Shared} {vs : List Value} {ns : List Int}
    (KX : K.In s₁.heap) (hns : s₁.heap.Ns mainGlobals mg) (hb : s₁.heap.Ns builtinsNs mb) (hbb : ∀ x : Str, x ≠ "__name__" → mb x = bootBuiltins x) (hlim : s₁.heap.NoLimit) (hg : s₁.gens = #[])
    (ha : s₁.heap.get? a = some { cls := .type "list", data := .seq vs.toArray }) (hi : IntsAre vs ns) (hl : ns.length ≤ n) (hn : n ≤ sizeLine) (hr : Room k callerA)
    (F : ∀ base : Heap, K.In base → base.Ns mainGlobals mg → FnG P w K mg base CX0 k fa fd [x] (spT K inv (lawW n))) (hbind : ∀ (s : Shared) (u : Value), BindsTo s fd ⟨[u], []⟩ [(x, u)]) :
    codeAny (model P w) callerA (.call (.ref fa) ⟨[.ref a], []⟩) (fun r s' => r = .ok (.ret (.bool true)) ∧ OldK s₁.heap s'.heap ∧ s'.os = s₁.os ∧ AllBare s'.gens) s₁ := by
  have rv := vals_ints hi
  have hlv := hi.length
  generalize hH : onlyH K a vs ns = H
  have at_ : ∀ {b : Addr} {u : HO}, H b = some u → b = a ∧ K.lookup a = none ∧ u = .frz { cls := .type "list", data := .seq vs.toArray } (.lst (ns.map V.int)) := fun h => onlyH_eq (by rw [hH]; exact h)
  have hok : HOk P w H s₁.heap := fun b u e => by
    obtain ⟨rfl, _, rfl⟩ := at_ e
    exact ⟨ha, by rw [List.length_map]; omega, vs, _, rv, ha⟩
  have keep : ∀ {b : Addr} {o : Obj}, s₁.heap.get? b = some o → H b = none → (hidT s₁.heap H).get? b = some o := fun e n => hidT_get e n
  have notKnown : ∀ {b : Addr} {o : Obj}, s₁.heap.get? b = some o → (b = a → K.lookup a = none → o.data = .seq vs.toArray 0 → False) → H b = none := fun {b o} e no => by
    cases q : H b with
    | none => rfl
    | some u =>
      obtain ⟨rfl, h2, _⟩ := at_ q
      refine (no rfl h2 ?_).elim
      rw [ha] at e
      cases e
      rfl
  have ns_ : ∀ {b : Addr} {m : Str → Option Value}, s₁.heap.Ns b m → (hidT s₁.heap H).Ns b m := fun {b m} ⟨o, es, ep, e, d, r⟩ => ⟨o, es, ep, keep e (notKnown e fun _ _ z => by rw [d] at z; cases z), d, r⟩
  have kin : K.In (hidT s₁.heap H) := fun b o e => keep (KX b o e) (notKnown (KX b o e) fun h1 h2 _ => by rw [h1, h2] at e; cases e)
  have hM : Mod K mg (hidT s₁.heap H) := ⟨kin, ns_ hns, ⟨mb, ns_ hb, hbb⟩, hlim.elim fun mc h => ⟨mc, ns_ h.1, h.2⟩⟩
  have env : Env0 P w K mg (hidT s₁.heap H) callerA [] s₁ H := ⟨rfl, hM, fun b o e => of_hidT e, Nat.le_of_eq (hidT_size _ _), trivial, fun b hb => (nomatch hb), hok, .of_eq hg⟩
  have sq : SqL K H a (ns.map V.int) := by
    cases q : K.lookup a with
    | none => exact .inl (.inr ⟨_, by rw [← hH]; unfold onlyH; rw [if_pos ⟨rfl, by rw [q]; rfl⟩]⟩)
    | some o =>
      have e := KX a o q
      rw [ha] at e
      cases e
      exact .inr ⟨_, vs.toArray, _, q, rfl, rfl, rfl, by rw [List.size_toArray, hlv]; omega, by simpa using rv⟩
  have hsp : spT K inv (lawW n) [.ref a] H (fun v _ => v = .bl true) (fun _ _ _ => False) := by
    refine ⟨[.dat (.list (ns.map .int))], [], H, [], fun t _ => t = tBo true, fun _ _ _ => False, .one (.dat (.lst sq (dp_ints ns))), .nil, ⟨.refl _, fun _ z => (nomatch z), fun _ z => (nomatch z)⟩, ⟨ns, rfl, hl, rfl⟩, fun t os v fp' F' W' H' hL _ _ hp => ?_, fun _ _ _ _ _ _ _ _ _ _ _ _ _ z => z⟩
    subst hp
    cases hL with
    | cons h1 _ _ =>
      cases h1 with
      | som h1 =>
        cases h1 with
        | dat h1 => cases h1; rfl
  refine codeAny_mono ((F _ kin (ns_ hns)).run callerA [] s₁ H ⟨[.ref a], []⟩ [.ref a] [.ref a] _ _ hr rfl env (hbind s₁ (.ref a)) (.cons (rref _) .nil) hsp) fun res s' h => ?_
  cases res with
  | error e => exact h.elim
  | ok fl =>
    cases fl with
    | ret u =>
      obtain ⟨v, H', os, bare, un, hok', r', q⟩ := h
      subst q
      cases r'
      refine ⟨rfl, OldK.of_keep fun b o e => ?_, os, bare⟩
      cases q : H b with
      | none => exact un.keep b o e q (fun z => (nomatch z)) (fun z => (nomatch z))
      | some u =>
        obtain ⟨rfl, _, rfl⟩ := at_ q
        obtain ⟨e2, _⟩ := hok' b _ (un.frzs b _ _ q)
        rw [ha] at e
        cases e
        exact e2
    | _ => exact False.elim h
/-- the goal that the head leaves, from the law's promise -/
theorem walkG {l : PySem.W.OpenLaw} {n k : Nat} {q : Program} {loose : List Str} {XP : (Str → Option Value) → Heap → Prop} {YP : World → Heap → Prop} {d : DefRec} {K : Params → PySem.W.Frag} {inv : HO → Prop} {x : Str}
    (hn : l.most = some n) (hn2 : n ≤ sizeLine) (hdf : d.params.defaults = []) (hr : Room k callerA) (hY : ∀ (w : World) (h : Heap), YP w h → (K w.params).In h)
    (F : ∀ (w : World) (mg : Str → Option Value) (fa : Addr) (h : Heap), (K w.params).In h → h.Ns mainGlobals mg → mg d.name = some (.ref fa) → ∃ fd : FuncData, (∀ (s : Shared) (u : Value), BindsTo s fd ⟨[u], []⟩ [(x, u)]) ∧
      ∀ base : Heap, (K w.params).In base → base.Ns mainGlobals mg → FnG l.prog w (K w.params) mg base CX0 k fa fd [x] (spT (K w.params) inv (lawW n))) : PySem.W.WalkO q loose XP YP l.row.toRowW d [] (fun f vs => PySem.call f vs) := by
  apply Att.attach_call hn hdf
  intro w s₀ s₁ mg mb fa o pm cd doc a vs ns G Y ho hd hcd hmg hobj hints hlen hg
  obtain ⟨fd, hb, hF⟩ := F w mg fa _ (hY w _ Y) G.T.g hmg
  exact lawG_call (hY w _ Y) G.T.g G.T.b G.T.builtins G.T.nolimit hg hobj hints hlen hn2 hr hF hb
end Hz
/-! Hz12: what is walked; for loops; list comprehensions. -/
namespace Hz
open PySem L2
/-- what is walked: values kept meanwhile, how many turns, what each gives -/
structure Src where
  tmp : List T
  n : Nat
  it : Nat → T
abbrev WI := Rho → WX → (Src → Rho → Prop) → Prop
def SrcOk (K : PySem.W.Frag) (I : Sg) (J : It) (xs : List V) (src : Src) : Prop :=
  ∀ c ρ tm σ vs F W H, R K I c ρ (src.tmp ++ tm) σ (xs ++ vs) F W H →
    (∀ i, i < src.n → J.go i H ∧ ∀ x H', J.yld i H x H' → ∃ F', R K I c ρ (src.it i :: (src.tmp ++ tm)) σ (x :: (xs ++ vs)) F' W H') ∧ J.stop src.n H
def EvI (K : PySem.W.Frag) (I : Sg) (E : XK) (wi : TI) (ww : WI) : Prop :=
  ∀ c ρ tm σ vs F W H, R K I c ρ tm σ vs F W H → ∀ Qx Qs, XOk K I c E Qx → ww ρ Qx Qs →
    ∀ Rr : It → Hp → Prop, (∀ J src xs ρ' F' W' H', R K I c ρ' (src.tmp ++ tm) σ (xs ++ vs) F' W' H' → xs.length = src.tmp.length → SrcOk K I J xs src → (∀ x ∈ src.tmp, x.noLz = true) → (∀ i, i < src.n → (src.it i).real = true) → Qs src ρ' → Rr J H') → wi σ H Rr
def dropsT : List T → Rho → Rho
  | [], ρ => ρ
  | t :: ts, ρ => dropsT ts (t.drop ρ)
section
variable {K : PySem.W.Frag} {I : Sg} {c : Ct} {ρ ρ' : Rho} {t s : T} {tm ts ss : List T} {σ : L2.St} {v : V} {vs us : List V} {F : Hp} {W : List Addr} {H : Hp}
theorem R.drops : ∀ {ts : List T} {us : List V} {ρ : Rho}, R K I c ρ (ts ++ tm) σ (us ++ vs) F W H → us.length = ts.length → R K I c (dropsT ts ρ) tm σ vs F W H
  | [], [], ρ, h, _ => h
  | [], _ :: _, ρ, h, e => by cases e
  | _ :: _, [], ρ, h, e => by cases e
  | t :: ts, u :: us, ρ, h, e => R.drops (ts := ts) (us := us) (R.dropT h) (Nat.succ.inj e)
end
/-- a walked value is no name any more -/
def settle (t : T) (ρ : Rho) (k : T → Rho → Prop) : Prop := match t with
  | .lz j => ∃ s, (ρ[j]?).join = some s ∧ ∀ u, k (.bor j [] u s) (ρ.set j (some (.cst u)))
  | t => k t ρ
theorem R.settle {K : PySem.W.Frag} {I : Sg} {c : Ct} {ρ : Rho} {t : T} {tm : List T} {σ : L2.St} {v : V} {vs : List V} {F : Hp} {W : List Addr} {H : Hp} {k : T → Rho → Prop} (h : R K I c ρ (t :: tm) σ (v :: vs) F W H) (hk : Hz.settle t ρ k) :
    ∃ t' ρ', R K I c ρ' (t' :: tm) σ (v :: vs) F W H ∧ t'.noLz = true ∧ k t' ρ' := by
  cases t with
  | lz j =>
    obtain ⟨s, hs, hk⟩ := hk
    obtain ⟨u, r, hu⟩ := h.drop.take (join_some hs) (p := []) rfl
    have e1 : σ[j]? = some (some v) := h.orig
    have e2 := hu rfl
    rw [e1] at e2
    cases e2
    obtain ⟨f, hr, _⟩ := h.peek hs
    exact ⟨_, _, r.rebor (j := j) (p := []) (rep_real hr), rfl, hk v⟩
  | _ => exact ⟨_, _, h, rfl, hk⟩
/-- sources -/
def iSeq (lst : Bool) (a : WE) : WI := fun ρ Qx Q => a ρ Qx fun t ρ1 => settle t ρ1 fun t' ρ2 => ∃ s ts, t'.peek ρ2 = some s ∧ s.isL = lst ∧ s.items = some ts ∧ ts.all T.copy = true ∧ Q ⟨[t'], ts.length, fun i => ts.getD i tN⟩ ρ2
def iR1 (a : WE) : WI := fun ρ Qx Q => a ρ Qx fun t ρ1 => ∃ n, t = tI n ∧ n ≤ 1000000 ∧ -1000000 ≤ n ∧ Q ⟨[], n.toNat, fun i => tI (0 + i)⟩ ρ1
def iR2 (a b : WE) : WI := fun ρ Qx Q => a ρ Qx fun t ρ1 => b ρ1 Qx fun u ρ2 => ∃ lo hi, t = tI lo ∧ u = tI hi ∧ (-1000000 ≤ lo ∧ lo ≤ 1000000) ∧ (-1000000 ≤ hi ∧ hi ≤ 1000000) ∧ Q ⟨[], (hi - lo).toNat, fun i => tI (lo + i)⟩ ρ2
def iEn (a : WE) : WI := fun ρ Qx Q => a ρ Qx fun t ρ1 => settle t ρ1 fun t' ρ2 => ∃ s ts ds, t'.peek ρ2 = some s ∧ s.isL = true ∧ s.items = some ts ∧ ts.all T.copy = true ∧ T.pys ts = some ds ∧ Q ⟨[t'], ts.length, fun i => .dat (.tuple [.int i, ds.getD i .none])⟩ ρ2
def iZp (a b : WE) : WI := fun ρ Qx Q => a ρ Qx fun ta ρ1 => b ρ1 Qx fun tb ρ2 => ∃ s1 s2 t1 t2 d1 d2, ta.noLz = true ∧ tb.noLz = true ∧ ta.peek ρ2 = some s1 ∧ tb.peek ρ2 = some s2 ∧ s1.isL = true ∧ s2.isL = true ∧ s1.items = some t1 ∧ s2.items = some t2 ∧ t1.all T.copy = true ∧ t2.all T.copy = true ∧ T.pys t1 = some d1 ∧ T.pys t2 = some d2 ∧
  Q ⟨[tb, ta], min t1.length t2.length, fun i => .dat (.tuple [d1.getD i .none, d2.getD i .none])⟩ ρ2
section
variable {K : PySem.W.Frag} {I : Sg} {E : XK} {ta tb tl : TE} {wa wb : WE}
theorem getD_of {α : Type} {xs : List α} {i : Nat} {x d : α} (h : xs[i]? = some x) : xs.getD i d = x := by rw [List.getD_eq_getElem?_getD, h]; rfl
theorem peek_noLz {t s : T} {ρ : Rho} (h : t.noLz = true) (hp : t.peek ρ = some s) (ρ' : Rho) : t.peek ρ' = some s := by cases t <;> first | exact hp | cases h
theorem copy_real {t : T} (h : t.copy = true) : t.real = true := by cases t <;> first | rfl | cases h
/-- what a sequence that is kept says at each turn -/
theorem seq_turn {c : Ct} {ρ : Rho} {t s : T} {tm ts : List T} {σ : L2.St} {v : V} {vs : List V} {F : Hp} {W : List Addr} {H : Hp} (h : R K I c ρ (t :: tm) σ (v :: vs) F W H) (hp : t.peek ρ = some s) (hi : s.items = some ts) (hc : ts.all T.copy = true) :
    ∃ a us, v = .ref a ∧ us.length = ts.length ∧ (s.isL = true → SqL K H a us) ∧ (s.isL = false → SqT K H a us) ∧ ∀ (i : Nat) (u : V), us[i]? = some u → ∀ k, ts[i]? = some k → Rep K F W H u k [] := by
  obtain ⟨f, hr, _⟩ := h.peek hp
  obtain ⟨a, us, g, rfl, hA, _, hL, hT, _⟩ := rep_seq hr h.sub hi
  refine ⟨a, us, rfl, repA_len hA, hL, hT, fun i u hu k hk => ?_⟩
  obtain ⟨u', f', e1, e2⟩ := repA_at (repA_copy (F' := F) (W' := W) (H' := H) (.refl _) (fun _ z => z) hA hc) hk
  rw [hu] at e1
  cases e1
  exact rep_copy e2 (List.all_eq_true.mp hc k (List.mem_of_getElem? hk)) (.refl _) fun _ z => z
theorem ei_list (ha : EvW K I E tl wa) : EvI K I E (iList K tl) (iSeq true wa) := fun c ρ tm σ vs F W H r Qx Qs hx hw Rr k =>
  ha c ρ tm σ vs F W H r Qx _ hx hw _ fun t ρ1 v F1 W1 H1 r1 q1 => by
    obtain ⟨t', ρ2, r2, hz, s, ts, hp, hL, hi, hc, q⟩ := r1.settle q1
    obtain ⟨a, us, rfl, hl, h1, _, _⟩ := seq_turn r2 hp hi hc
    refine ⟨a, rfl, ⟨us, h1 hL⟩, k (Itl K a) ⟨[t'], ts.length, fun i => ts.getD i tN⟩ [.ref a] ρ2 F1 W1 H1 r2 rfl ?_ ?_ ?_ q⟩
    · intro c ρ tm σ vs F W H r
      obtain ⟨a', us', e, hl', h1', _, hat⟩ := seq_turn (tm := tm) (vs := vs) r (peek_noLz hz hp ρ) hi hc
      cases e
      refine ⟨fun i hi' => ?_, us', h1' hL, Nat.le_of_eq hl'⟩
      have hlt : i < us'.length := Nat.lt_of_lt_of_eq hi' hl'.symm
      refine ⟨⟨us', us'[i], h1' hL, List.getElem?_eq_getElem hlt⟩, fun x H' y => ?_⟩
      obtain ⟨e1, e2⟩ := y
      subst e1
      have hx := e2 us' (h1' hL)
      have hk : ts[i]? = some (ts[i]'(hi')) := List.getElem?_eq_getElem hi'
      refine ⟨F, ?_⟩
      show R K I c ρ (ts.getD i tN :: ([t'] ++ tm)) σ (x :: ([.ref a] ++ vs)) F W H'
      rw [getD_of hk]
      exact R.dup r (hat i x hx _ hk) (List.all_eq_true.mp hc _ (List.mem_of_getElem? hk))
    · intro x hx
      cases List.mem_singleton.mp hx
      exact hz
    · intro i hi'
      have hk : ts[i]? = some (ts[i]'(hi')) := List.getElem?_eq_getElem hi'
      show (ts.getD i tN).real = true
      rw [getD_of hk]
      exact copy_real (List.all_eq_true.mp hc _ (List.mem_of_getElem? hk))
theorem ei_tup (ha : EvW K I E tl wa) : EvI K I E (iTup K tl) (iSeq false wa) := fun c ρ tm σ vs F W H r Qx Qs hx hw Rr k =>
  ha c ρ tm σ vs F W H r Qx _ hx hw _ fun t ρ1 v F1 W1 H1 r1 q1 => by
    obtain ⟨t', ρ2, r2, hz, s, ts, hp, hL, hi, hc, q⟩ := r1.settle q1
    obtain ⟨a, us, rfl, hl, _, h1, _⟩ := seq_turn r2 hp hi hc
    refine ⟨a, rfl, ⟨us, h1 hL⟩, k (Itt K a) ⟨[t'], ts.length, fun i => ts.getD i tN⟩ [.ref a] ρ2 F1 W1 H1 r2 rfl ?_ ?_ ?_ q⟩
    · intro c ρ tm σ vs F W H r
      obtain ⟨a', us', e, hl', _, h1', hat⟩ := seq_turn (tm := tm) (vs := vs) r (peek_noLz hz hp ρ) hi hc
      cases e
      refine ⟨fun i hi' => ?_, us', h1' hL, Nat.le_of_eq hl'⟩
      have hlt : i < us'.length := Nat.lt_of_lt_of_eq hi' hl'.symm
      refine ⟨⟨us', us'[i], h1' hL, List.getElem?_eq_getElem hlt⟩, fun x H' y => ?_⟩
      obtain ⟨e1, e2⟩ := y
      subst e1
      have hx := e2 us' (h1' hL)
      have hk : ts[i]? = some (ts[i]'(hi')) := List.getElem?_eq_getElem hi'
      refine ⟨F, ?_⟩
      show R K I c ρ (ts.getD i tN :: ([t'] ++ tm)) σ (x :: ([.ref a] ++ vs)) F W H'
      rw [getD_of hk]
      exact R.dup r (hat i x hx _ hk) (List.all_eq_true.mp hc _ (List.mem_of_getElem? hk))
    · intro x hx
      cases List.mem_singleton.mp hx
      exact hz
    · intro i hi'
      have hk : ts[i]? = some (ts[i]'(hi')) := List.getElem?_eq_getElem hi'
      show (ts.getD i tN).real = true
      rw [getD_of hk]
      exact copy_real (List.all_eq_true.mp hc _ (List.mem_of_getElem? hk))
theorem big62 : (1000000 : Int) < 2 ^ 62 := by decide
theorem ei_range1 (ha : EvW K I E ta wa) : EvI K I E (iRng1 (tCons ta tNil)) (iR1 wa) := fun c ρ tm σ vs F W H r Qx Qs hx hw Rr k =>
  ha c ρ tm σ vs F W H r Qx _ hx hw _ fun t ρ1 v F1 W1 H1 r1 ⟨n, e, h1, h2, q⟩ => by
    subst e
    have dv := r1.topDat
    cases dv
    have hb := big62
    refine ⟨n, rfl, by omega, by omega, k (Itr 0 n.toNat) ⟨[], n.toNat, fun i => tI (0 + i)⟩ [] ρ1 F1 W1 H1 r1.drop rfl ?_ (fun _ z => (nomatch z)) (fun _ _ => rfl) q⟩
    intro c ρ tm σ vs F W H r
    exact ⟨fun i hi => ⟨hi, fun x H' ⟨e1, e2⟩ => by
      subst e1; subst e2
      exact ⟨F, r.dat (.int _)⟩⟩, Nat.le_refl _⟩
theorem ei_range2 (ha : EvW K I E ta wa) (hb : EvW K I E tb wb) : EvI K I E (iRng2 (tCons ta (tCons tb tNil))) (iR2 wa wb) := fun c ρ tm σ vs F W H r Qx Qs hx hw Rr k =>
  ha c ρ tm σ vs F W H r Qx _ hx hw _ fun t ρ1 v F1 W1 H1 r1 q1 => hb c ρ1 (t :: tm) σ (v :: vs) F1 W1 H1 r1 Qx _ hx q1 _ fun u ρ2 w F2 W2 H2 r2 ⟨lo, hi, e1, e2, ⟨l1, l2⟩, ⟨l3, l4⟩, q⟩ => by
    subst e1; subst e2
    have d1 := r2.topDat
    have d2 := r2.drop.topDat
    cases d1
    cases d2
    have hb := big62
    refine ⟨lo, hi, rfl, ⟨by omega, by omega, by omega, by omega⟩, k (Itr lo (hi - lo).toNat) ⟨[], (hi - lo).toNat, fun i => tI (lo + i)⟩ [] ρ2 F2 W2 H2 r2.drop.drop rfl ?_ (fun _ z => (nomatch z)) (fun _ _ => rfl) q⟩
    intro c ρ tm σ vs F W H r
    exact ⟨fun i hi => ⟨hi, fun x H' ⟨e1, e2⟩ => by
      subst e1; subst e2
      exact ⟨F, r.dat (.int _)⟩⟩, Nat.le_refl _⟩
theorem pys_at : ∀ {ts : List T} {ds : List PyData} {i : Nat} {k : T}, T.pys ts = some ds → ts[i]? = some k → ∃ d, ds[i]? = some d ∧ k.py = some d
  | [], ds, i, k, h, hk => by cases hk
  | t :: ts, ds, i, k, h, hk => by
    have h' : (match t.py, T.pys ts with | some d, some ds => some (d :: ds) | _, _ => none) = some ds := h
    cases e1 : t.py with
    | none => rw [e1] at h'; cases h'
    | some d =>
      cases e2 : T.pys ts with
      | none => rw [e1, e2] at h'; cases h'
      | some dr =>
        rw [e1, e2] at h'
        cases h'
        cases i with
        | zero => cases hk; exact ⟨d, rfl, e1⟩
        | succ i => exact pys_at (i := i) e2 hk
/-- a new pair of data -/
theorem R.newPair {c : Ct} {ρ : Rho} {tm : List T} {σ : L2.St} {vs : List V} {F : Hp} {W : List Addr} {H : Hp} {p : Addr} {x y : V} {d e : PyData} (h : R K I c ρ tm σ vs F W H) (hx : Rep K F W H x (.dat d) []) (hy : Rep K F W H y (.dat e) []) (hp : H p = none) :
    ∃ F', R K I c ρ (.dat (.tuple [d, e]) :: tm) σ (.ref p :: vs) F' W (upd H p (.tup [x, y])) := by
  obtain ⟨F3, _, r3⟩ := (h.newTupC (ts := [.dat d, .dat e]) (us := [x, y]) (.cons hx (.cons hy .nil (.refl _)) (.refl _)) hp).freeze (d := .tuple [d, e]) rfl
  exact ⟨F3, r3⟩
theorem ei_enum (ha : EvW K I E ta wa) : EvI K I E (iEnum K (tCons ta tNil)) (iEn wa) := fun c ρ tm σ vs F W H r Qx Qs hx hw Rr k =>
  ha c ρ tm σ vs F W H r Qx _ hx hw _ fun t ρ1 v F1 W1 H1 r1 q1 => by
    obtain ⟨t', ρ2, r2, hz, s, ts, ds, hp, hL, hi, hc, hd, q⟩ := r1.settle q1
    obtain ⟨a, us, rfl, hl, h1, _, _⟩ := seq_turn r2 hp hi hc
    refine ⟨a, us, rfl, h1 hL, k (Ite K a) ⟨[t'], ts.length, fun i => .dat (.tuple [.int i, ds.getD i .none])⟩ [.ref a] ρ2 F1 W1 H1 r2 rfl ?_ ?_ (fun _ _ => rfl) q⟩
    · intro c ρ tm σ vs F W H r
      obtain ⟨a', us', e, hl', h1', _, hat⟩ := seq_turn (tm := tm) (vs := vs) r (peek_noLz hz hp ρ) hi hc
      cases e
      refine ⟨fun i hi' => ?_, us', h1' hL, Nat.le_of_eq hl'⟩
      have hlt : i < us'.length := Nat.lt_of_lt_of_eq hi' hl'.symm
      refine ⟨⟨us', us'[i], h1' hL, List.getElem?_eq_getElem hlt⟩, fun x H' y => ?_⟩
      obtain ⟨P, x0, e1, e2, e3, e4⟩ := y
      subst e1; subst e3
      have hx := e4 us' (h1' hL)
      have hk : ts[i]? = some (ts[i]'(hi')) := List.getElem?_eq_getElem hi'
      obtain ⟨d, hd1, hd2⟩ := pys_at hd hk
      have hrep := hat i x0 hx _ hk
      have hrd : Rep K F W H x0 (.dat d) [] := .dat (rep_py (.refl _) _ _ [] d hrep (fun _ z => (nomatch z)) hd2)
      show ∃ F', R K I c ρ (T.dat (.tuple [.int i, ds.getD i .none]) :: ([t'] ++ tm)) σ _ F' W _
      rw [getD_of hd1]
      exact R.newPair r (.dat (.int _)) hrd e2
    · intro x hx
      cases List.mem_singleton.mp hx
      exact hz
theorem ei_zip (ha : EvW K I E ta wa) (hb : EvW K I E tb wb) : EvI K I E (iZip K (tCons ta (tCons tb tNil))) (iZp wa wb) := fun c ρ tm σ vs F W H r Qx Qs hx hw Rr k =>
  ha c ρ tm σ vs F W H r Qx _ hx hw _ fun t ρ1 v F1 W1 H1 r1 q1 => hb c ρ1 (t :: tm) σ (v :: vs) F1 W1 H1 r1 Qx _ hx q1 _ fun u ρ2 w F2 W2 H2 r2 ⟨s1, s2, t1, t2, d1, d2, z1, z2, p1, p2, l1, l2, i1, i2, c1, c2, y1, y2, q⟩ => by
    obtain ⟨b, ws, rfl, _, g1, _, _⟩ := seq_turn r2 p2 i2 c2
    obtain ⟨a, us, rfl, _, h1, _, _⟩ := seq_turn r2.drop p1 i1 c1
    refine ⟨a, b, us, ws, rfl, h1 l1, g1 l2, k (Itz K a b) ⟨[u, t], min t1.length t2.length, fun i => .dat (.tuple [d1.getD i .none, d2.getD i .none])⟩ [.ref b, .ref a] ρ2 F2 W2 H2 r2 rfl ?_ ?_ (fun _ _ => rfl) q⟩
    · intro c ρ tm σ vs F W H r
      obtain ⟨b', ws', e, hlb, g1', _, hatb⟩ := seq_turn (tm := t :: tm) (vs := .ref a :: vs) r (peek_noLz z2 p2 ρ) i2 c2
      cases e
      obtain ⟨a', us', e, hla, h1', _, hata⟩ := seq_turn (tm := tm) (vs := vs) (R.drop (tm := t :: tm) (vs := .ref a :: vs) r) (peek_noLz z1 p1 ρ) i1 c1
      cases e
      refine ⟨fun i hi' => ?_, us', ws', h1' l1, g1' l2, by show us'.length ≤ min t1.length t2.length ∨ ws'.length ≤ min t1.length t2.length; omega⟩
      have hi2 : i < min t1.length t2.length := hi'
      have hlt : i < us'.length := by omega
      have hlt2 : i < ws'.length := by omega
      refine ⟨⟨us', ws', us'[i], ws'[i], h1' l1, g1' l2, List.getElem?_eq_getElem hlt, List.getElem?_eq_getElem hlt2⟩, fun x H' y => ?_⟩
      obtain ⟨P, x0, x1, e1, e2, e3, e4, e5⟩ := y
      subst e1; subst e3
      have hk1 : t1[i]? = some (t1[i]'(by omega)) := List.getElem?_eq_getElem (by omega)
      have hk2 : t2[i]? = some (t2[i]'(by omega)) := List.getElem?_eq_getElem (by omega)
      obtain ⟨e, he1, he2⟩ := pys_at y1 hk1
      obtain ⟨e', he3, he4⟩ := pys_at y2 hk2
      have r1 : Rep K F W H x0 (.dat e) [] := .dat (rep_py (.refl _) _ _ [] e (hata i x0 (e4 us' (h1' l1)) _ hk1) (fun _ z => (nomatch z)) he2)
      have r2 : Rep K F W H x1 (.dat e') [] := .dat (rep_py (.refl _) _ _ [] e' (hatb i x1 (e5 ws' (g1' l2)) _ hk2) (fun _ z => (nomatch z)) he4)
      show ∃ F', R K I c ρ (T.dat (.tuple [d1.getD i .none, d2.getD i .none]) :: ([u, t] ++ tm)) σ _ F' W _
      rw [getD_of he1, getD_of he3]
      exact R.newPair r r1 r2 e2
    · intro x hx
      rcases List.mem_cons.mp hx with rfl | hx
      · exact z2
      · cases List.mem_singleton.mp hx
        exact z1
end

/-! ### for -/
def sFor (wi : WI) (g : WG) (b : WS) : WS := fun O Qx ρ => wi ρ Qx fun src ρ1 => Inv1 fun Iv : Nat → Rho → Prop => Iv 0 ρ1 ∧
  (∀ i ρ2, i < src.n → Iv i ρ2 → g (src.it i) ρ2 Qx fun ρ3 => b ⟨Iv (i + 1), fun t ρ4 => O.rt t (dropsT src.tmp ρ4), fun ρ4 => O.nx (dropsT src.tmp ρ4), Iv (i + 1)⟩ Qx ρ3) ∧
  ∀ ρ2, Iv src.n ρ2 → O.nx (dropsT src.tmp ρ2)
section
variable {K : PySem.W.Frag} {I : Sg} {E : XK}
theorem sv_for {as : List Nat} {wi : TI} {ww : WI} {g : TG} {wg : WG} {tb : TS} {wb : WS} (hi : EvI K I E wi ww) (hg : GvW K I E as g wg) (hb : SvW K I E tb wb) : SvW K I E (tFor wi g tb) (sFor ww wg wb) := fun c ρ tm σ vs F W H r hz O Qx D hx d q =>
  hi c ρ tm σ vs F W H r Qx _ hx q _ fun J src xs ρ1 F1 W1 H1 r1 hl hs hn hr ⟨Iv, i0, it, iE⟩ => by
    refine ⟨fun i m σ H => m = src.n - i ∧ i ≤ src.n ∧ ∃ ρ F W, R K I c ρ (src.tmp ++ tm) σ (xs ++ vs) F W H ∧ Iv i ρ, ⟨src.n, by omega, Nat.zero_le _, ρ1, F1, W1, r1, i0⟩, ?_⟩
    rintro i m σ2 H2 ⟨rfl, hle, ρ2, F2, W2, r2, iv⟩
    have hz' : ∀ x ∈ src.tmp ++ tm, x.noLz = true := fun x hx => (List.mem_append.mp hx).elim (hn x) (hz x)
    obtain ⟨turns, stop⟩ := hs c ρ2 tm σ2 vs F2 W2 H2 r2
    by_cases hlt : i < src.n
    · obtain ⟨go, yld⟩ := turns i hlt
      refine .inr ⟨go, fun σ H => ∃ ρ F W, R K I c ρ (src.tmp ++ tm) σ (xs ++ vs) F W H ∧ Iv (i + 1) ρ, fun σ' H' h => ⟨src.n - (i + 1), by omega, rfl, hlt, h⟩, fun x H' y => ?_⟩
      obtain ⟨F3, r3⟩ := yld x H' y
      refine hg c ρ2 (src.it i) (src.tmp ++ tm) σ2 x (xs ++ vs) F3 W2 H' r3 (hr i hlt) hz' Qx _ _ hx (fun ρ4 σ4 F4 W4 H4 r4 _ q4 => ?_) (it i ρ2 hlt iv)
      refine hb c ρ4 (src.tmp ++ tm) σ4 (xs ++ vs) F4 W4 H4 r4 hz' _ Qx _ hx ⟨?_, ?_, ?_, ?_⟩ q4
      · exact fun ρ σ F W H r q => ⟨ρ, F, W, r, q⟩
      · exact fun t ρ σ v F W H r ht q => d.rt _ _ _ _ _ _ _ (R.drops (R.unmid r hl) hl) ht q
      · exact fun ρ σ F W H r q => d.nx _ _ _ _ _ (R.drops r hl) q
      · exact fun ρ σ F W H r q => ⟨ρ, F, W, r, q⟩
    · have e : i = src.n := by omega
      subst e
      exact .inl ⟨stop, d.nx _ _ _ _ _ (R.drops r2 hl) (iE ρ2 iv)⟩
end
end Hz
/-! Hz13: list comprehensions by trees. -/
namespace Hz
open PySem L2
def wipeR (ρ : Rho) : List Nat → Rho
  | [] => ρ
  | v :: vs => (wipeR ρ vs).set v none
section
variable {K : PySem.W.Frag} {I : Sg} {c : Ct} {ρ ρ' : Rho} {t s : T} {tm ts ss : List T} {σ σ2 : L2.St} {v : V} {vs us : List V} {F : Hp} {W : List Addr} {H : Hp}
theorem R.unset {i : Nat} (h : R K I c ρ tm σ vs F W H) (hz : ∀ x ∈ tm, x.noLz = true) (hi : i ∉ I.prot) : R K I c (ρ.set i none) tm (σ.set i none) vs F W H := by
  obtain ⟨f1, f2, h1, h2, nd, st⟩ := h.ex
  have pr' : ∀ k ∈ I.prot, (σ.set i none)[k]? = c.σ0[k]? := fun k hk => by
    rw [List.getElem?_set_ne (fun e => hi (by rw [e]; exact hk))]
    exact h.pr k hk
  have sig : ∀ {xs : List V} {ys : List T} {f : List Addr}, Lst (RepT K F W H σ) xs ys f → (∀ x ∈ ys, x.noLz = true) → Lst (RepT K F W H (σ.set i none)) xs ys f := by
    intro xs ys f hh
    induction hh with
    | nil => intro _; exact .nil
    | cons k1 _ q ih => intro hn; exact .cons (k1.sig (hn _ List.mem_cons_self)) (ih fun x hx => hn x (List.mem_cons_of_mem _ hx)) q
  cases hρ : ρ[i]? with
  | none =>
    have hl := h2.len
    have hi' : ρ.length ≤ i := List.getElem?_eq_none_iff.mp hρ
    rw [List.set_eq_of_length_le hi', List.set_eq_of_length_le (by omega)]
    exact h
  | some y =>
    obtain ⟨x, g1, g2, e1, e2, q, k⟩ := h2.focus hρ
    have r2 := k (RepS K F W H) none none [] (fun x y g hp hs => hp) .non
    have sl : List.Sublist (f1 ++ ([] ++ g2)) (f1 ++ (g1 ++ g2)) := (List.sublist_append_right g1 g2).append_left f1
    have pm := q.append_left f1
    exact ⟨⟨f1, _, sig h1 hz, r2, (nodup_of_perm pm nd).sublist sl, (st.perm (.refl _) pm).less fun a ha => sl.subset ha⟩, pr'⟩
theorem R.wipe {wv : List Nat} (h : R K I c ρ tm σ vs F W H) (hz : ∀ x ∈ tm, x.noLz = true) (hi : ∀ i ∈ wv, i ∉ I.prot) : R K I c (wipeR ρ wv) tm (L2.wipe σ wv) vs F W H := by
  induction wv with
  | nil => exact h
  | cons v wv ih => exact (ih fun i hi' => hi i (List.mem_cons_of_mem _ hi')).unset hz (hi v List.mem_cons_self)
theorem wipeR_none : ∀ {wv : List Nat} {ρ : Rho} {i : Nat}, i ∈ wv → ((wipeR ρ wv)[i]?).join = none
  | v :: wv, ρ, i, h => by
    unfold wipeR
    by_cases e : v = i
    · subst e
      rw [List.getElem?_set]
      by_cases hl : v < (wipeR ρ wv).length
      · rw [if_pos rfl, if_pos hl]; rfl
      · rw [if_pos rfl, if_neg hl]; rfl
    · rw [List.getElem?_set_ne e]
      rcases List.mem_cons.mp h with h | h
      · exact absurd h.symm e
      · exact wipeR_none h
theorem wipe_at : ∀ {wv : List Nat} {σ : L2.St} {i : Nat}, (L2.wipe σ wv)[i]? = if i ∈ wv then (if i < σ.length then some none else none) else σ[i]?
  | [], σ, i => by simp [L2.wipe]
  | v :: wv, σ, i => by
    unfold L2.wipe
    by_cases e : v = i
    · subst e
      rw [List.getElem?_set, if_pos rfl, wipe_length]
      simp
    · rw [List.getElem?_set_ne e, wipe_at]
      by_cases h : i ∈ wv
      · rw [if_pos h, if_pos (List.mem_cons_of_mem _ h)]
      · rw [if_neg h, if_neg (fun z => (List.mem_cons.mp z).elim (fun q => e q.symm) h)]
theorem wipe_same {wv as : List Nat} (h : SameBut (L2.wipe σ wv) σ2 as) (hs : ∀ i ∈ as, i ∈ wv) : L2.wipe σ2 wv = L2.wipe σ wv := by
  apply List.ext_getElem?
  intro i
  rw [wipe_at, wipe_at]
  have hl : σ2.length = σ.length := by rw [h.1, wipe_length]
  by_cases e : i ∈ wv
  · rw [if_pos e, if_pos e, hl]
  · rw [if_neg e, if_neg e, h.2 i (fun z => e (hs i z)), wipe_at, if_neg e]
/-- the block's names are the frame's again -/
theorem lst_ext {α β : Type} {P : α → β → List Addr → Prop} : ∀ {xs zs : List α} {ys : List β} {f : List Addr}, Lst P xs ys f → zs.length = xs.length → (∀ (i : Nat) (x : α) (y : β) (z : α) (g : List Addr), xs[i]? = some x → ys[i]? = some y → zs[i]? = some z → P x y g → P z y g) → Lst P zs ys f
  | [], [], _, _, .nil, _, _ => .nil
  | [], _ :: _, _, _, _, e, _ => by cases e
  | _ :: _, [], _, _, _, e, _ => by cases e
  | x :: xs, z :: zs, y :: ys, f, .cons h1 h2 p, e, k => .cons (k 0 x y z _ rfl rfl rfl h1) (lst_ext h2 (Nat.succ.inj e) fun i x y z g a b d hp => k (i + 1) x y z g a b d hp) p
theorem R.unwipe {wv : List Nat} (h : R K I c ρ tm (L2.wipe σ wv) vs F W H) (hz : ∀ x ∈ tm, x.noLz = true) (hi : ∀ i ∈ wv, i ∉ I.prot) (hn : ∀ i ∈ wv, (ρ[i]?).join = none) : R K I c ρ tm σ vs F W H := by
  obtain ⟨f1, f2, h1, h2, nd, st⟩ := h.ex
  have sig : ∀ {xs : List V} {ys : List T} {f : List Addr}, Lst (RepT K F W H (L2.wipe σ wv)) xs ys f → (∀ x ∈ ys, x.noLz = true) → Lst (RepT K F W H σ) xs ys f := by
    intro xs ys f hh
    induction hh with
    | nil => intro _; exact .nil
    | cons k1 _ q ih => intro hn; exact .cons (k1.sig (hn _ List.mem_cons_self)) (ih fun x hx => hn x (List.mem_cons_of_mem _ hx)) q
  refine ⟨⟨f1, f2, sig h1 hz, lst_ext h2 (wipe_length σ wv).symm fun i x y z g hx hy hz' hp => ?_, nd, st⟩, fun i hi' => ?_⟩
  · by_cases e : i ∈ wv
    · have := hn i e
      rw [hy] at this
      have hy0 : y = none := this
      subst hy0
      cases hp
      exact .non
    · rw [wipe_at, if_neg e, hz'] at hx
      cases hx
      exact hp
  · have := h.pr i hi'
    rw [wipe_at, if_neg (fun e => hi i e hi')] at this
    exact this
end

def wLc (wi : WI) (g : WG) (tt : WT) (te : WE) (wv : List Nat) : WE := fun ρ Qx Q => wi ρ Qx fun src ρ1 => Inv1 fun Iv : Nat → List T → Rho → Prop => Iv 0 [] (wipeR ρ1 wv) ∧
  (∀ i acc ρ2, i < src.n → Iv i acc ρ2 → g (src.it i) ρ2 Qx fun ρ3 => tt ρ3 Qx fun b ρ4 => if b = true then te ρ4 Qx fun t ρ5 => ∃ s ρ6, t.opn ρ5 = some (s, ρ6) ∧ acc.length < 1000000 ∧ Iv (i + 1) (acc ++ [s]) (wipeR ρ6 wv) else Iv (i + 1) acc (wipeR ρ4 wv)) ∧
  ∀ acc ρ2, Iv src.n acc ρ2 → Q (.lst acc) (dropsT src.tmp ρ2)
def bYes : WT := fun ρ _ Q => Q true ρ
section
variable {K : PySem.W.Frag} {I : Sg} {E : XK}
theorem et_yes : EvT K I E tYes bYes := fun c ρ tm σ vs F W H r Qx Qv hx hw Q k => k _ _ _ _ _ r hw
theorem R.newEmpty {c : Ct} {ρ : Rho} {tm : List T} {σ : L2.St} {vs : List V} {F : Hp} {W : List Addr} {H : Hp} {p : Addr} (h : R K I c ρ tm σ vs F W H) (hp : H p = none) : R K I c ρ (.lst [] :: tm) σ (.ref p :: vs) F W (upd H p (.lst [])) :=
  h.newLstC (ts := []) (us := []) .nil hp
/-- the value on top goes behind the list under it -/
theorem R.push {c : Ct} {ρ : Rho} {s : T} {ts tm : List T} {σ : L2.St} {x y : V} {vs : List V} {F : Hp} {W : List Addr} {H : Hp} (h : R K I c ρ (s :: .lst ts :: tm) σ (y :: x :: vs) F W H) (hs : s.real = true) :
    ∃ a us, x = .ref a ∧ H a = some (.lst us) ∧ us.length = ts.length ∧ R K I c ρ (.lst (ts ++ [s]) :: tm) σ (x :: vs) F W (upd H a (.lst (us ++ [y]))) := by
  have h' := R.mid (ts := [s]) (us := [y]) h rfl
  obtain ⟨a, us, e, hH, hl, hm⟩ := R.modLst (cs := [s]) (ws := [y]) h' rfl (by rw [List.all_cons, hs]; rfl)
  subst e
  exact ⟨a, us, rfl, hH, hl, hm (us' := us ++ [y]) (rv := []) (ts' := ts ++ [s]) (rs := []) fun P f g h1 h2 => ⟨f ++ g, [], [], h1.app h2, .nil, by rw [List.append_nil, List.append_nil]⟩⟩
/-- values at hand, their names forgotten -/
def unLz : List T → List V → List T
  | .lz _ :: ts, v :: vs => .cst v :: unLz ts vs
  | t :: ts, _ :: vs => t :: unLz ts vs
  | ts, [] => ts
  | [], _ => []
theorem unLz_no : ∀ {ts : List T} {vs : List V}, vs.length = ts.length → ∀ x ∈ unLz ts vs, x.noLz = true
  | [], [], _, x, hx => by cases hx
  | [], _ :: _, e, x, hx => by cases e
  | _ :: _, [], e, x, hx => by cases e
  | t :: ts, v :: vs, e, x, hx => by
    have ih := unLz_no (ts := ts) (vs := vs) (Nat.succ.inj e)
    cases t with
    | lz j =>
      rcases List.mem_cons.mp (show x ∈ T.cst v :: unLz ts vs from hx) with rfl | hx
      · rfl
      · exact ih x hx
    | dat d => rcases List.mem_cons.mp (show x ∈ T.dat d :: unLz ts vs from hx) with rfl | hx <;> first | rfl | exact ih x hx
    | cst d => rcases List.mem_cons.mp (show x ∈ T.cst d :: unLz ts vs from hx) with rfl | hx <;> first | rfl | exact ih x hx
    | well => rcases List.mem_cons.mp (show x ∈ T.well :: unLz ts vs from hx) with rfl | hx <;> first | rfl | exact ih x hx
    | lst d => rcases List.mem_cons.mp (show x ∈ T.lst d :: unLz ts vs from hx) with rfl | hx <;> first | rfl | exact ih x hx
    | tup d => rcases List.mem_cons.mp (show x ∈ T.tup d :: unLz ts vs from hx) with rfl | hx <;> first | rfl | exact ih x hx
    | dic d d' => rcases List.mem_cons.mp (show x ∈ T.dic d d' :: unLz ts vs from hx) with rfl | hx <;> first | rfl | exact ih x hx
    | ins d d' d'' => rcases List.mem_cons.mp (show x ∈ T.ins d d' d'' :: unLz ts vs from hx) with rfl | hx <;> first | rfl | exact ih x hx
    | bor d d' d'' d3 => rcases List.mem_cons.mp (show x ∈ T.bor d d' d'' d3 :: unLz ts vs from hx) with rfl | hx <;> first | rfl | exact ih x hx
theorem unLz_rep {F : Hp} {W : List Addr} {H : Hp} {σ : L2.St} : ∀ {ts : List T} {vs : List V} {f : List Addr}, OrigAll σ ts vs → vs.length = ts.length → (Lst (RepT K F W H σ) vs ts f ↔ Lst (RepT K F W H σ) vs (unLz ts vs) f)
  | [], [], f, _, _ => Iff.rfl
  | [], _ :: _, f, _, e => by cases e
  | _ :: _, [], f, _, e => by cases e
  | t :: ts, v :: vs, f, ho, e => by
    have ih := fun g => unLz_rep (F := F) (W := W) (H := H) (σ := σ) (ts := ts) (vs := vs) (f := g) ho.2 (Nat.succ.inj e)
    have any : ∀ {t' : T}, (∀ g, RepT K F W H σ v t g ↔ RepT K F W H σ v t' g) → (Lst (RepT K F W H σ) (v :: vs) (t :: ts) f ↔ Lst (RepT K F W H σ) (v :: vs) (t' :: unLz ts vs) f) := fun {t'} hh =>
      ⟨fun h => by cases h with | cons a b p => exact .cons ((hh _).mp a) ((ih _).mp b) p, fun h => by cases h with | cons a b p => exact .cons ((hh _).mpr a) ((ih _).mpr b) p⟩
    cases t with
    | lz j =>
      refine any (t' := .cst v) fun g => ⟨fun h => ?_, fun h => ?_⟩
      · cases h with
        | of h => cases h
        | lz h => exact .of .cst
      · cases h with
        | of h => cases h; exact .lz ho.1
    | _ => exact any fun g => Iff.rfl
theorem R.unLz {c : Ct} {ρ : Rho} {tm : List T} {σ : L2.St} {vs : List V} {F : Hp} {W : List Addr} {H : Hp} (h : R K I c ρ tm σ vs F W H) :
    ∃ tm', (∀ x ∈ tm', x.noLz = true) ∧ R K I c ρ tm' σ vs F W H ∧ ∀ {ρ' : Rho} {t : T} {v : V} {F' : Hp} {W' : List Addr} {H' : Hp}, R K I c ρ' (t :: tm') σ (v :: vs) F' W' H' → R K I c ρ' (t :: tm) σ (v :: vs) F' W' H' := by
  have ho : OrigAll σ tm vs ∧ vs.length = tm.length := by
    obtain ⟨f1, f2, h1, _, _, _⟩ := h.ex
    have hl := h1.len
    have h' : R K I c ρ (tm ++ []) σ (vs ++ []) F W H := by rw [List.append_nil, List.append_nil]; exact h
    exact ⟨R.origAll h' hl, hl⟩
  refine ⟨Hz.unLz tm vs, unLz_no ho.2, ?_, fun {ρ' t v F' W' H'} r => ?_⟩
  · obtain ⟨f1, f2, h1, h2, nd, st⟩ := h.ex
    exact ⟨⟨f1, f2, (unLz_rep ho.1 ho.2).mp h1, h2, nd, st⟩, h.pr⟩
  · obtain ⟨f1, f2, h1, h2, nd, st⟩ := r.ex
    cases h1 with
    | cons a b p => exact ⟨⟨f1, f2, .cons a ((unLz_rep ho.1 ho.2).mpr b) p, h2, nd, st⟩, r.pr⟩
theorem ev_lc {as wv : List Nat} {wi : TI} {ww : WI} {g : TG} {wg : WG} {tt : TT} {wt : WT} {te : TE} {we : WE} (hp : ∀ i ∈ wv, i ∉ I.prot) (has : ∀ i ∈ as, i ∈ wv) (hi : EvI K I E wi ww) (hg : GvW K I E as g wg) (ht : EvT K I E tt wt) (he : EvW K I E te we) :
    EvW K I E (tLc wi g tt te wv) (wLc ww wg wt we wv) := fun c ρ tm σ vs F W H r Qx Qv hx q Q k => by
  obtain ⟨tm', hz, r', back⟩ := r.unLz
  refine hi c ρ tm' σ vs F W H r' Qx _ hx q _ fun J src xs ρ1 F1 W1 H1 r1 hl hs hn hr ⟨Iv, i0, it, iE⟩ => ?_
  intro D hD
  have hz' : ∀ x ∈ src.tmp ++ tm', x.noLz = true := fun x hx => (List.mem_append.mp hx).elim (hn x) (hz x)
  have r2 := (R.wipe r1 hz' hp).newEmpty hD
  refine ⟨fun i m H => m = src.n - i ∧ i ≤ src.n ∧ ∃ ρ F W acc, R K I c ρ (.lst acc :: (src.tmp ++ tm')) (L2.wipe σ wv) (.ref D :: (xs ++ vs)) F W H ∧ (∀ j ∈ wv, (ρ[j]?).join = none) ∧ Iv i acc ρ,
    ⟨src.n, by omega, Nat.zero_le _, _, F1, W1, [], r2, fun j hj => wipeR_none hj, i0⟩, ?_⟩
  rintro i m H2 ⟨rfl, hle, ρ2, F2, W2, acc, r3, hw, iv⟩
  have r4 := R.unmid (ts := src.tmp) (us := xs) r3 hl
  obtain ⟨turns, stop⟩ := hs c ρ2 (.lst acc :: tm') (L2.wipe σ wv) (.ref D :: vs) F2 W2 H2 r4
  by_cases hlt : i < src.n
  · obtain ⟨go, yld⟩ := turns i hlt
    have next : ∀ {ρ5 : Rho} {acc' : List T} {σ5 : L2.St} {F5 : Hp} {W5 : List Addr} {H5 : Hp}, R K I c ρ5 (.lst acc' :: (src.tmp ++ tm')) σ5 (.ref D :: (xs ++ vs)) F5 W5 H5 → L2.wipe σ5 wv = L2.wipe σ wv → Iv (i + 1) acc' (wipeR ρ5 wv) →
        ∃ ρ F W acc, R K I c ρ (.lst acc :: (src.tmp ++ tm')) (L2.wipe σ wv) (.ref D :: (xs ++ vs)) F W H5 ∧ (∀ j ∈ wv, (ρ[j]?).join = none) ∧ Iv (i + 1) acc ρ := fun {ρ5 acc' σ5 F5 W5 H5} r5 e5 q5 => by
      have r6 := R.wipe r5 (fun x hx => (List.mem_cons.mp hx).elim (fun e => by rw [e]; rfl) (hz' x)) hp
      rw [e5] at r6
      exact ⟨_, F5, W5, acc', r6, fun j hj => wipeR_none hj, q5⟩
    refine .inr ⟨go, fun H => ∃ ρ F W acc, R K I c ρ (.lst acc :: (src.tmp ++ tm')) (L2.wipe σ wv) (.ref D :: (xs ++ vs)) F W H ∧ (∀ j ∈ wv, (ρ[j]?).join = none) ∧ Iv (i + 1) acc ρ, fun H' h => ⟨src.n - (i + 1), by omega, rfl, hlt, h⟩, fun x H' y => ?_⟩
    obtain ⟨F3, r5⟩ := yld x H' y
    have hzz : ∀ x ∈ src.tmp ++ .lst acc :: tm', x.noLz = true := fun x hx => by
      rcases List.mem_append.mp hx with hx | hx
      · exact hn x hx
      · rcases List.mem_cons.mp hx with rfl | hx
        · rfl
        · exact hz x hx
    refine hg c ρ2 (src.it i) (src.tmp ++ .lst acc :: tm') (L2.wipe σ wv) x (xs ++ .ref D :: vs) F3 W2 H' r5 (hr i hlt) hzz Qx _ _ hx (fun ρ4 σ4 F4 W4 H4 r6 sb q4 => ?_) (it i acc ρ2 hlt iv)
    have ew := wipe_same sb has
    refine ⟨ew, ht c ρ4 _ σ4 _ F4 W4 H4 r6 Qx _ hx q4 _ fun b ρ5 F5 W5 H5 r7 q5 => ?_⟩
    cases b with
    | false => exact next (R.mid r7 hl) ew q5
    | true =>
      refine he c ρ5 _ σ4 _ F5 W5 H5 r7 Qx _ hx q5 _ fun t ρ6 v F6 W6 H6 r8 ⟨s, ρ7, ho, hla, q6⟩ => ?_
      obtain ⟨r9, hsr⟩ := r8.opn ho
      -- the new item on top of the list
      have r10 : R K I c ρ7 (s :: .lst acc :: (src.tmp ++ tm')) σ4 (v :: .ref D :: (xs ++ vs)) F6 W6 H6 := by
        have z := R.unmid (ts := [s]) (us := [v]) (R.mid (ts := s :: src.tmp) (us := v :: xs) r9 (by rw [List.length_cons, List.length_cons, hl])) rfl
        exact z
      obtain ⟨a, us, e, hH, hlen, r11⟩ := r10.push hsr
      cases e
      exact ⟨us, hH, Nat.lt_of_lt_of_le (by omega) (line_of (n := 1000000) (Nat.le_refl _)), next r11 ew q6⟩
  · have e : i = src.n := by omega
    subst e
    refine .inl ⟨stop, ?_⟩
    have r5 := R.unwipe r3 (fun x hx => (List.mem_cons.mp hx).elim (fun e => by rw [e]; rfl) (hz' x)) hp hw
    have r6 := R.drops (ts := src.tmp) (us := xs) (tm := .lst acc :: tm') (vs := .ref D :: vs) (R.unmid r5 hl) hl
    exact k _ _ _ _ _ _ (back r6) (iE acc ρ2 iv)
end
end Hz
/-! Hz14: repr of data; own comparisons; isinstance. -/
namespace Hz
open PySem L2 PyProof.Rows
/-! ### repr -/
mutual
theorem dp_nodict {K : PySem.W.Frag} {H : Hp} : ∀ (d : PyData) (v : V), Dp K H v d → d.hasDict = false
  | .none, _, _ => rfl
  | .bool _, _, _ => rfl
  | .int _, _, _ => rfl
  | .str _, _, _ => rfl
  | .list ds, _, h => by
    cases h with
    | lst _ h => simp only [PyData.hasDict]; exact dpa_nodict ds _ h
  | .tuple ds, _, h => by
    cases h with
    | tup _ h => simp only [PyData.hasDict]; exact dpa_nodict ds _ h
  | .dict _, _, h => by cases h
theorem dpa_nodict {K : PySem.W.Frag} {H : Hp} : ∀ (ds : List PyData) (vs : List V), DpAll K H vs ds → PyData.hasDictAll ds = false
  | [], _, _ => rfl
  | d :: ds, _, h => by
    cases h with
    | cons h1 h2 => simp only [PyData.hasDictAll, dp_nodict d _ h1, dpa_nodict ds _ h2]; rfl
end
def ReprOk (d : PyData) : Prop := d.showable = true ∧ d.shown.length ≤ sizeLine ∧ d.depth ≤ 60
def rRep (K : PySem.W.Frag) : List V → Hp → VK → Prop := fun xs H Q => ∃ v d, xs = [v] ∧ Dp K H v d ∧ ReprOk d ∧ Q (.str d.shown) H
theorem call_repr {X : Cx} (hg : X.A.guards = some []) (hu : X.A.units + 65 < cLine) : CallR X (.builtin "repr") (rRep X.K) := by
  intro pins s σ H xs us Q I r h
  obtain ⟨v, d, rfl, hd, ⟨h1, h2, h3⟩, q⟩ := h
  obtain ⟨u, rfl, ru⟩ := vals1 r
  have nd := dp_nodict d v hd
  have ref : ∀ {a : Addr}, u = .ref a → wpAny (model X.prog X.w) X.A (call (.builtin "repr") [u]) (EP X pins σ Q) X.xe s := fun {a} e => by
    subst e
    obtain ⟨as, rd⟩ := Dp.reads I d v _ hd ru
    exact repr_of_reads' (h₀ := s.heap) rd h1 (fun z => by rw [nd] at z; cases z) hg (by omega) (fun _ _ e => e) (fun h' u tk hk => ⟨.str d.shown, H, I.kept hk, ⟨u, rfl⟩, q⟩) h2
  cases hd with
  | non =>
    cases (show u = Value.none from ru)
    exact PySem.P.repr_of_none ⟨.str _, H, I.tok _, ⟨_, rfl⟩, by simpa only [PyData.shown] using q⟩
  | bl b =>
    cases (show u = Value.bool b from ru)
    exact PySem.P.repr_of_bool ⟨.str _, H, I.tok _, ⟨_, rfl⟩, by simpa only [PyData.shown] using q⟩
  | int i =>
    obtain ⟨t, e⟩ := (show ∃ t, u = Value.int i t from ru)
    cases e
    exact PySem.P.repr_of_int (by simpa [PyData.showable] using h1) ⟨.str _, H, I.tok _, ⟨_, rfl⟩, by simpa only [PyData.shown] using q⟩
  | str x =>
    obtain ⟨t, e⟩ := (show ∃ t, u = Value.str x t from ru)
    cases e
    exact PySem.P.repr_of_str ⟨.str _, H, I.tok _, ⟨_, rfl⟩, by simpa only [PyData.shown] using q⟩ (by simpa only [PyData.shown] using h2)
  | lst _ _ => exact ref (show u = Value.ref _ from ru)
  | tup _ _ => exact ref (show u = Value.ref _ from ru)
mutual
/-- a bound of the length of what is shown; whether it can be shown -/
def cost : PyData → Nat
  | .none => 5
  | .bool _ => 5
  | .int i => i.natAbs.log2 + 4
  | .str x => 10 * x.length + 2
  | .list ds => costs ds + 3
  | .tuple ds => costs ds + 3
  | .dict _ => 0
def costs : List PyData → Nat
  | [] => 0
  | d :: ds => cost d + 2 + costs ds
end
mutual
def showB : PyData → Bool
  | .int i => decide (i.natAbs.log2 < 1920)
  | .str x => x.cps.toList.all fun c => decide (c < 16 ^ 8)
  | .list ds => showBs ds
  | .tuple ds => showBs ds
  | .dict _ => false
  | _ => true
def showBs : List PyData → Bool
  | [] => true
  | d :: ds => showB d && showBs ds
end
mutual
theorem show_cost : ∀ d : PyData, showB d = true → d.showable = true ∧ d.shown.length ≤ cost d
  | .none, _ => ⟨rfl, by decide⟩
  | .bool b, _ => ⟨rfl, by cases b <;> decide⟩
  | .int i, h => by
    have h' : i.natAbs.log2 < 1920 := of_decide_eq_true h
    refine ⟨by simpa [PyData.showable] using h', ?_⟩
    have := PySem.int_text_length_le (a := i) (k := i.natAbs.log2 + 1) (Nat.succ_pos _) (Nat.lt_succ_self _)
    simp only [PyData.shown, cost]
    rw [PySem.ofString_length]
    omega
  | .str x, h => by
    refine ⟨rfl, ?_⟩
    simp only [PyData.shown, cost]
    exact StrLaws.reprText_len x fun c hc => of_decide_eq_true (List.all_eq_true.mp h c hc)
  | .list ds, h => by
    obtain ⟨h1, h2⟩ := show_costs ds h
    refine ⟨by simpa [PyData.showable] using h1, ?_⟩
    simp only [PyData.shown, cost]
    have := listText_len_le (PyData.shownAll ds)
    omega
  | .tuple ds, h => by
    obtain ⟨h1, h2⟩ := show_costs ds h
    refine ⟨by simpa [PyData.showable] using h1, ?_⟩
    simp only [PyData.shown, cost]
    have := tupleText_len_le (PyData.shownAll ds)
    omega
  | .dict _, h => by cases h
theorem show_costs : ∀ ds : List PyData, showBs ds = true → PyData.showableAll ds = true ∧ ((PyData.shownAll ds).map (·.length)).sum + 2 * (PyData.shownAll ds).length ≤ costs ds
  | [], _ => ⟨rfl, by simp [PyData.shownAll]⟩
  | d :: ds, h => by
    have h' : (showB d && showBs ds) = true := h
    rw [Bool.and_eq_true] at h'
    obtain ⟨a1, a2⟩ := show_cost d h'.1
    obtain ⟨b1, b2⟩ := show_costs ds h'.2
    refine ⟨by simp [PyData.showableAll, a1, b1], ?_⟩
    simp only [PyData.shownAll, costs, List.map_cons, List.sum_cons, List.length_cons]
    omega
end
theorem reprOk {d : PyData} (h : showB d = true) (hc : cost d ≤ 16000000) (hd : d.depth ≤ 60) : ReprOk d := by
  obtain ⟨h1, h2⟩ := show_cost d h
  refine ⟨h1, ?_, hd⟩
  rw [sizeLine_eq]
  omega
def sRepr : S1 := fun t ρ Q => ∃ s d, t.peek ρ = some s ∧ s.py = some d ∧ ReprOk d ∧ Q (.dat (.str d.shown)) (t.drop ρ)
theorem op_repr {K : PySem.W.Frag} {I : Sg} : Op1 K I (fun v => rRep K [v]) sRepr := fun c ρ t tm σ v vs F W H r Qv ⟨s, d, hp, hd, ok, q⟩ Q kk => by
  obtain ⟨f, hr, _⟩ := r.peek hp
  exact ⟨v, d, rfl, dp_of hr r.sub hd, ok, kk _ _ _ _ _ _ (r.dropT.dat (.str _)) q⟩

/-! ### types -/
structure InsC (K : PySem.W.Frag) (C : Addr) : Prop where
  cl : Cls K C
  ha : PySem.W.findIn K (.ref C) "__class__" = some (some (.builtin "object.__class__"))
  hn : PySem.W.specialIn K (.builtin "object.__class__") "__get__" = some (some (.builtin "getset_descriptor.__get__"))
  tk : PySem.W.takesIn K (.builtin "object.__class__") = some true
  hm : PySem.W.mroIn K C (.type "object") = some true
def T.tyn : T → Option Value
  | .dat .none => some (.type "NoneType")
  | .dat (.bool _) => some (.type "bool")
  | .dat (.int _) => some (.type "int")
  | .dat (.str _) => some (.type "str")
  | .dat (.list _) => some (.type "list")
  | .dat (.tuple _) => some (.type "tuple")
  | .lst _ => some (.type "list")
  | .tup _ => some (.type "tuple")
  | .ins C _ _ => some (.ref C)
  | _ => none
theorem tyX_rep {K : PySem.W.Frag} {F : Hp} {W : List Addr} {H : Hp} {v : V} {s : T} {f : List Addr} {t : Value} (h : Rep K F W H v s f) (hs : Sub F H) (ht : s.tyn = some t) (hC : ∀ C, t = .ref C → InsC K C) : TyX K H v t := by
  cases h with
  | dat h =>
    cases h with
    | non => cases ht; exact .base .non
    | bl b => cases ht; exact .base (.bl b)
    | int i => cases ht; exact .base (.int i)
    | str x => cases ht; exact .base (.str x)
    | lst h1 _ =>
      cases ht
      rcases h1 with (h1 | ⟨o, h1⟩) | ⟨o, _, _, h1, h2, _⟩
      · exact .base (.lst (hs _ _ h1))
      · exact .base (.frz (hs _ _ h1))
      · exact .kList h1 h2
    | tup h1 _ =>
      cases ht
      rcases h1 with (h1 | ⟨o, h1⟩) | ⟨o, _, _, h1, h2, _⟩
      · exact .base (.tup (hs _ _ h1))
      · exact .fTuple (hs _ _ h1)
      · exact .kTuple h1 h2
  | lst h1 _ _ => cases ht; exact .base (.lst h1)
  | tup h1 _ _ => cases ht; exact .base (.tup h1)
  | ins h1 _ _ _ =>
    cases ht
    obtain ⟨a, b, c, d, e⟩ := hC _ rfl
    exact .base (.ins h1 a b c d e)
  | cst => cases ht
  | well _ => cases ht
  | dic _ _ _ _ => cases ht
def sIsi (K : PySem.W.Frag) : S2 := fun t u ρ Q => ∃ s c tv uv b, t.peek ρ = some s ∧ s.tyn = some tv ∧ (∀ C, tv = .ref C → InsC K C) ∧ u = .cst c ∧ ClsV c uv ∧ PySem.W.kitOne K tv uv = some b ∧ Q (tBo b) (t.drop ρ)
theorem op_isi {K : PySem.W.Frag} {I : Sg} : Op2 K I (fun v w => rIsi K [v, w]) (sIsi K) := fun c ρ t u tm σ v w vs F W H r Qv ⟨s, c', tv, uv, b, hp, ht, hC, e, hc, hk, q⟩ Q kk => by
  subst e
  have e := r.topCst
  subst e
  have r1 := r.drop
  obtain ⟨f, hr, _⟩ := r1.peek hp
  exact ⟨v, w, tv, uv, b, rfl, hc, tyX_rep hr r1.sub ht hC, hk, kk _ _ _ _ _ _ (r1.dropT.dat (.bl b)) q⟩

/-! ### own comparisons -/
def rOwn (K : PySem.W.Frag) (C : Addr) (sp : Sp) (E : XK) : R2 := fun x y H Q => ∃ a dx fs tb, x = .ref a ∧ H a = some (.ins C dx fs) ∧ TyX K H y tb ∧ PySem.W.notFirst K C tb = true ∧ sp [x, y] H Q E
theorem op_own {X : Cx} {CX : CXT} {k : Nat} {f C : Addr} {fd : FuncData} {ps : List Str} {sp : Sp} {E : XK} {op : CmpOp} (F : FnG X.prog X.w X.K X.mg X.base CX k f fd ps sp) (hr : Room k X.A) (hgd : X.A.guards = some []) (hb : BindM X.K fd ps 1 [] (fun us _ => us)) (hx : Passes CX X E)
    (hs : PySem.W.findIn X.K (.ref C) (cmpInfo op).2.1 = some (some (.ref f))) (hf : PySem.W.isFn X.K (.ref f) = true) (he : compareOp op = richCompare op) : OpR X (compareOp op) (rOwn X.K C sp E) := by
  intro pins s σ H x y v u Q I rx ry h
  obtain ⟨a, dx, fs, tb, rfl, ha, ty, hn, hq⟩ := h
  cases (show v = Value.ref a from rx)
  rw [he]
  obtain ⟨P, Z, p, _⟩ := kit_of I ry ty
  obtain ⟨mA, J, _⟩ := ins_get I.hok ha
  obtain ⟨od, J, _⟩ := J.look
  obtain ⟨m, hF⟩ := I.fr
  have hu : X.A.units < cLine := by have := hr.un; omega
  refine PySem.W.cmp_K hu hF I.ok.mod.kin J (Z.ty _ _ I.kIn p) hn hs hf ?_
  refine wpAny_mono (runG (us := [.ref a, u]) (vals := [.ref a, u]) (kw := []) F hr hgd hx I (hb.1 s (.ref a) [u] [] I.kIn rfl rfl) (.cons (rref _) (.cons ry .nil)) hq) (fun r s' hv => ?_) fun _ _ z => z
  obtain ⟨z, H', I', rz, q⟩ := hv
  have ep : EP X pins σ Q r s' := ⟨z, H', I', rz, q⟩
  cases z with
  | non => cases (show r = Value.none from rz); exact ep
  | bl b => cases (show r = Value.bool b from rz); exact ep
  | int i => obtain ⟨t, e⟩ := (show ∃ t, r = Value.int i t from rz); cases e; exact ep
  | str i => obtain ⟨t, e⟩ := (show ∃ t, r = Value.str i t from rz); cases e; exact ep
  | byt i => obtain ⟨t, e⟩ := (show ∃ t, r = Value.bytes i t from rz); cases e; exact ep
  | flt i => obtain ⟨t, e⟩ := (show ∃ t, r = Value.float i t from rz); cases e; exact ep
  | ref i => cases (show r = Value.ref i from rz); exact ep
  | ty n => cases (show r = Value.type n from rz); exact ep
/-- x op y by x's own method -/
def wOwn (K : PySem.W.Frag) (C : Addr) (Wf : SpT) (a b : WE) : WE := fun ρ Qx Q => a ρ Qx fun t ρ1 => b ρ1 Qx fun u ρ2 => ∃ ns xs s tb, t.peek ρ2 = some (.ins C ns xs) ∧ u.peek ρ2 = some s ∧ s.tyn = some tb ∧ (∀ D, tb = .ref D → InsC K D) ∧ PySem.W.notFirst K C tb = true ∧ wFn Wf [t, u] ρ2 Qx Q
theorem ev_own {K : PySem.W.Frag} {I : Sg} {E : XK} {C : Addr} {Wf : SpT} {ta tb : TE} {wa wb : WE} (ha : EvW K I E ta wa) (hb : EvW K I E tb wb) : EvW K I E (tOp (rOwn K C (spT K I.inv Wf) E) ta tb) (wOwn K C Wf wa wb) :=
  fun c ρ tm σ vs F W H r Qx Qv hx hw Q k => ha c ρ tm σ vs F W H r Qx _ hx hw _ fun t ρ' v F' W' H' r' hw' => hb c ρ' (t :: tm) σ (v :: vs) F' W' H' r' Qx _ hx hw' _ fun u ρ2 w F2 W2 H2 r2 ⟨ns, xs, s, tb, e1, e2, e3, e4, e5, ss, ρ3, ho, hW⟩ => by
    obtain ⟨f2, h2, _⟩ := r2.peek e2
    obtain ⟨f1, h1, _⟩ := r2.drop.peek e1
    have ty := tyX_rep h2 r2.sub e3 e4
    cases h1 with
    | ins g1 g0 g2 p =>
      rename_i a dx us fps
      exact ⟨a, dx, _, tb, rfl, g1, ty, e5, R.call (ts := [t, u]) (us := [.ref a, w]) (R.mid (ts := [u]) (us := [w]) r2 rfl) rfl hx ho hW k⟩
end Hz
/-! Hz15: wells; walking over parts that are owned. -/
namespace Hz
open PySem L2 PyProof.Rows
/-! ### wells: two ints that nobody looks at but the draw -/
def wellO : HO → Prop := fun o => ∃ i j : Int, o = .lst [.int i, .int j]
section
variable {P : Program} {w : World} {K : PySem.W.Frag} {mg : Str → Option Value} {base : Heap} {CX : CXT} {k : Nat} {f : Addr} {fd : FuncData} {ps : List Str}
theorem FnG.map {sp sp' : Sp} (F : FnG P w K mg base CX k f fd ps sp) (h : ∀ vs H Q E, sp' vs H Q E → sp vs H Q E) : FnG P w K mg base CX k f fd ps sp' :=
  ⟨fun vs H Q E q => F.len vs H Q E (h vs H Q E q), fun A o s H a us vs Q E hr hg e b r q => F.run A o s H a us vs Q E hr hg e b r (h vs H Q E q)⟩
end
/-- a def that hands out a list of two ints hands out a well -/
def outWell (W : SpT) : SpT := fun ts post ep => ∃ post1, W ts post1 ep ∧ ∀ t os, post1 t os → ∃ i j : Int, t = .lst [tI i, tI j] ∧ post .well os
theorem two_ints {K : PySem.W.Frag} {F : Hp} {W : List Addr} {H : Hp} {v : V} {f : List Addr} {i j : Int} (h : Rep K F W H v (.lst [tI i, tI j]) f) : ∃ a, v = .ref a ∧ H a = some (.lst [.int i, .int j]) ∧ f.Perm [a] := by
  cases h with
  | lst h1 h2 p =>
    cases h2 with
    | cons a1 a2 p2 =>
      cases a2 with
      | cons b1 b2 p3 =>
        cases b2
        cases a1 with
        | dat a1 =>
          cases b1 with
          | dat b1 =>
            cases a1
            cases b1
            have e1 := List.perm_nil.mp p3
            subst e1
            have e2 := List.perm_nil.mp p2
            subst e2
            exact ⟨_, rfl, h1, p⟩
theorem outWell_ok {K : PySem.W.Frag} {W : SpT} {vs : List V} {H : Hp} {Q : VK} {E : XK} (h : spT K wellO (outWell W) vs H Q E) : spT K wellO W vs H Q E := by
  obtain ⟨ts, fp, F, Wl, post, ep, hL, nd, wf, ⟨post1, hW, hp⟩, kk, kx⟩ := h
  refine ⟨ts, fp, F, Wl, post1, ep, hL, nd, wf, hW, fun t os v fp' F' W' H' hL' nd' st hpost => ?_, kx⟩
  obtain ⟨i, j, rfl, hq⟩ := hp t os hpost
  cases hL' with
  | cons h1 h2 p =>
    rename_i f1 f2
    cases h1 with
    | som h1 =>
      obtain ⟨a, rfl, ha, pa⟩ := two_ints h1
      have pm : fp'.Perm (a :: f2) := p.trans (pa.append_right f2)
      have nd2 := List.nodup_cons.mp (nodup_of_perm pm nd')
      have s2 := st.perm (.refl _) pm
      have oa := s2.wf.own a List.mem_cons_self
      refine kk .well os (.ref a) f2 F' (a :: W') H' (.cons (.som (.well List.mem_cons_self)) (h2.mono (f₀ := f2) (fun _ z => z) fun x y g hp _ => hp.keep (.refl _) (fun _ z => List.mem_cons_of_mem _ z) fun _ _ => rfl) (.refl _)) nd2.2 ?_ hq
      refine ⟨⟨s2.wf.sub, fun b hb => ?_, fun x hx => ?_⟩, s2.subF, fun x hx => List.mem_cons_of_mem _ (s2.subW x hx), s2.keep, s2.there, fun b hb => s2.newO b (List.mem_cons_of_mem _ hb), s2.newF, fun x hx => ?_⟩
      · obtain ⟨g1, g2, g3⟩ := s2.wf.own b (List.mem_cons_of_mem _ hb)
        exact ⟨g1, fun z => (List.mem_cons.mp z).elim (fun e => nd2.1 (e ▸ hb)) g2, g3⟩
      · rcases List.mem_cons.mp hx with rfl | hx
        · exact ⟨oa.1, _, ha, i, j, rfl⟩
        · exact s2.wf.wel x hx
      · rcases List.mem_cons.mp hx with rfl | hx
        · rcases s2.newO x List.mem_cons_self with q | q
          · exact .inr (.inl q)
          · exact .inr (.inr q)
        · exact s2.newW x hx
def isDat : T → Bool
  | .dat _ => true
  | _ => false
/-- a def that takes such a list first, and changes it, takes a well -/
def inWell (W : SpT) : SpT := fun ts post ep => ∃ tr, ts = .well :: tr ∧ tr.all isDat = true ∧ ∀ i j : Int, ∃ post1, W (.lst [tI i, tI j] :: tr) post1 (fun _ _ _ => False) ∧
  ∀ t os, post1 t os → ∃ (i' j' : Int) (or : Rho), os = some (.lst [tI i', tI j']) :: or ∧ post t (some .well :: or)
theorem rep_dats {K : PySem.W.Frag} {F : Hp} {W W' : List Addr} {H : Hp} : ∀ {vs : List V} {ts : List T} {f : List Addr}, Lst (Rep K F W H) vs ts f → ts.all isDat = true → f = [] ∧ Lst (Rep K F W' H) vs ts []
  | _, _, _, .nil, _ => ⟨rfl, .nil⟩
  | _, _, _, .cons h1 h2 p, h => by
    rw [List.all_cons, Bool.and_eq_true] at h
    obtain ⟨e, h3⟩ := rep_dats (W' := W') h2 h.2
    subst e
    cases h1 with
    | dat h1 => exact ⟨List.perm_nil.mp p, .cons (f1 := []) (.dat h1) h3 (.refl _)⟩
    | _ => cases h.1
theorem inWell_ok {K : PySem.W.Frag} {W : SpT} {vs : List V} {H : Hp} {Q : VK} {E : XK} (h : spT K wellO (inWell W) vs H Q E) : spT K wellO W vs H Q E := by
  obtain ⟨ts, fp, F, Wl, post, ep, hL, nd, wf, ⟨tr, rfl, hd, hW⟩, kk, kx⟩ := h
  cases hL with
  | cons h1 h2 p =>
    rename_i v vr f1 f2
    cases h1 with
    | well hw =>
      rename_i a
      obtain ⟨oF, o, ho, i, j, rfl⟩ := wf.wel a hw
      obtain ⟨post1, hW1, hp⟩ := hW i j
      obtain ⟨e, h3⟩ := rep_dats (W' := Wl.filter (fun b => decide (b ≠ a))) h2 hd
      subst e
      have e := List.perm_nil.mp p
      subst e
      have mW : ∀ {b : Addr}, b ∈ Wl.filter (fun b => decide (b ≠ a)) ↔ b ∈ Wl ∧ b ≠ a := fun {b} => by rw [List.mem_filter]; simp
      have wf0 : Hz.Wf wellO F (Wl.filter (fun b => decide (b ≠ a))) H [a] := ⟨wf.sub, fun b hb => by
        cases List.mem_singleton.mp hb
        exact ⟨oF, fun z => (mW.mp z).2 rfl, by rw [ho]; exact Option.some_ne_none _⟩, fun x hx => wf.wel x (mW.mp hx).1⟩
      refine ⟨_, [a], F, _, post1, _, .cons (f1 := [a]) (f2 := []) (.lst ho (.cons (f1 := []) (f2 := []) (.dat (.int i)) (.cons (f1 := []) (f2 := []) (.dat (.int j)) .nil (.refl _)) (.refl _)) (.refl _)) h3 (.refl _), (List.nodup_cons.mpr ⟨fun z => (nomatch z), .nil⟩), wf0, hW1, fun t os v' fp' F' W' H' hL' nd' st hpost => ?_, fun _ _ _ _ _ _ _ _ _ _ _ _ _ z => z.elim⟩
      obtain ⟨i', j', or, rfl, hq⟩ := hp t os hpost
      cases hL' with
      | cons g1 g2 p1 =>
        rename_i e1 e2
        cases g2 with
        | cons g3 g4 p2 =>
          rename_i e3 e4
          cases g3 with
          | som g3 =>
            obtain ⟨a', ea, ha, pa⟩ := two_ints g3
            cases ea
            have pm : fp'.Perm (a :: (e1 ++ e4)) := by
              refine p1.trans ((p2.append_left e1).trans (((pa.append_right e4).append_left e1).trans ?_))
              exact List.perm_middle
            have nd2 := List.nodup_cons.mp (nodup_of_perm pm nd')
            have s2 := st.perm (.refl _) pm
            have oa := s2.wf.own a List.mem_cons_self
            have kp : ∀ {x : Option V} {y : Option T} {g : List Addr}, RepS K F' W' H' x y g → RepS K F' (a :: W') H' x y g := fun h => h.keep (.refl _) (fun _ z => List.mem_cons_of_mem _ z) fun _ _ => rfl
            refine kk t (some .well :: or) v' (e1 ++ e4) F' (a :: W') H' (.cons (kp g1) (.cons (f1 := []) (.som (.well List.mem_cons_self)) (g4.mono (f₀ := e4) (fun _ z => z) fun x y g hp _ => kp hp) (.refl _)) (.refl _)) nd2.2 ?_ hq
            refine ⟨⟨s2.wf.sub, fun b hb => ?_, fun x hx => ?_⟩, s2.subF, fun x hx => ?_, fun b o hb n1 n2 => ?_, s2.there, fun b hb => ?_, fun b hb => ?_, fun x hx => ?_⟩
            · obtain ⟨q1, q2, q3⟩ := s2.wf.own b (List.mem_cons_of_mem _ hb)
              exact ⟨q1, fun z => (List.mem_cons.mp z).elim (fun e => nd2.1 (e ▸ hb)) q2, q3⟩
            · rcases List.mem_cons.mp hx with rfl | hx
              · exact ⟨oa.1, _, ha, i', j', rfl⟩
              · exact s2.wf.wel x hx
            · by_cases e : x = a
              · rw [e]; exact List.mem_cons_self
              · exact List.mem_cons_of_mem _ (s2.subW x (mW.mpr ⟨hx, e⟩))
            · have e : b ≠ a := fun e => n2 (e ▸ hw)
              exact s2.keep b o hb (fun z => e (List.mem_singleton.mp z)) fun z => n2 (mW.mp z).1
            · rcases s2.newO b (List.mem_cons_of_mem _ hb) with q | q
              · cases List.mem_singleton.mp q
                exact (nd2.1 hb).elim
              · exact .inr q
            · rcases s2.newF b hb with q | q | q
              · exact .inl q
              · cases List.mem_singleton.mp q
                exact (hb oa.1).elim
              · exact .inr (.inr q)
            · rcases List.mem_cons.mp hx with rfl | hx
              · exact .inl hw
              · rcases s2.newW x hx with q | q | q
                · exact .inl (mW.mp q).1
                · cases List.mem_singleton.mp q
                  exact .inl hw
                · exact .inr (.inr q)

/-! ### with more names that keep their values -/
section
variable {K : PySem.W.Frag} {I : Sg} {c : Ct} {ρ : Rho} {t s : T} {tm : List T} {σ : L2.St} {u v : V} {vs : List V} {F : Hp} {W : List Addr} {H : Hp}
def Sg.more (I : Sg) (bs : List Nat) : Sg := ⟨I.inv, bs ++ I.prot⟩
theorem R.rebase (bs : List Nat) (h : R K I c ρ tm σ vs F W H) : ∃ c', c'.σ0 = σ ∧ R K (I.more bs) c' ρ tm σ vs F W H ∧
    ∀ {ρ' : Rho} {tm' : List T} {σ' : L2.St} {vs' : List V} {F' : Hp} {W' : List Addr} {H' : Hp}, R K (I.more bs) c' ρ' tm' σ' vs' F' W' H' → R K I c ρ' tm' σ' vs' F' W' H' := by
  obtain ⟨f1, f2, h1, h2, nd, st⟩ := h.ex
  refine ⟨⟨H, F, W, f1 ++ f2, σ⟩, rfl, ⟨⟨f1, f2, h1, h2, nd, Step.refl st.wf⟩, fun _ _ => rfl⟩, fun {ρ' tm' σ' vs' F' W' H'} r => ?_⟩
  obtain ⟨g1, g2, j1, j2, nd', st'⟩ := r.ex
  exact ⟨⟨g1, g2, j1, j2, nd', st.trans st'⟩, fun i hi => (r.pr i (List.mem_append_right _ hi)).trans (h.pr i hi)⟩
def T.withS : T → T → T
  | .bor j p v _, s => .bor j p v s
  | _, s => s
theorem R.inner (h : R K I c ρ (t :: tm) σ (v :: vs) F W H) (hz : t.noLz = true) (hp : t.peek ρ = some s) : R K I c ρ (s :: tm) σ (v :: vs) F W H ∧
    ∀ {ρ' : Rho} {s1 : T} {tm' : List T} {σ' : L2.St} {vs' : List V} {F' : Hp} {W' : List Addr} {H' : Hp}, R K I c ρ' (s1 :: tm') σ' (v :: vs') F' W' H' → s1.real = true → R K I c ρ' (t.withS s1 :: tm') σ' (v :: vs') F' W' H' := by
  cases t with
  | lz j => cases hz
  | bor j p x s0 =>
    cases hp
    have e : x = v := h.orig
    subst e
    exact ⟨h.unbor, fun r hs => r.rebor hs⟩
  | _ => cases hp; exact ⟨h, fun r _ => r⟩
/-- an item is taken out of an owned list on top -/
theorem R.hole {ts : List T} {k : T} {i : Nat} (h : R K I c ρ (t :: tm) σ (v :: vs) F W H) (hz : t.noLz = true) (hp : t.peek ρ = some (.lst ts)) (hk : ts[i]? = some k) :
    ∃ a us x, v = .ref a ∧ H a = some (.lst us) ∧ us[i]? = some x ∧ R K I c ρ (k :: t.withS (.lst (ts.set i (.cst x))) :: tm) σ (x :: v :: vs) F W H := by
  obtain ⟨r1, back⟩ := h.inner hz hp
  obtain ⟨x, ha, r2⟩ := r1.part (k := k) (st := .ix i) rfl hk
  obtain ⟨a, us, e, ho, hx⟩ := ha
  subst e
  have r3 := R.mid (ts := [k]) (us := [x]) r2 rfl
  have r4 := back r3 rfl
  obtain ⟨f, hr, _⟩ := r1.peek (s := .lst ts) rfl
  cases hr with
  | lst h1 _ _ =>
    have ho' : H a = some (.lst us) := by
      rcases ho with ho | ho
      · exact ho
      · rw [h1] at ho; cases ho
    exact ⟨a, us, x, rfl, ho', hx, R.mid (ts := [_]) (us := [_]) r4 rfl⟩
/-- .. and put back -/
theorem R.unhole {ts : List T} {i : Nat} (h : R K I c ρ (s :: t :: tm) σ (u :: v :: vs) F W H) (hz : t.noLz = true) (hp : t.peek ρ = some (.lst ts)) (hk : ts[i]? = some (.cst u)) (hs : s.real = true) :
    R K I c ρ (t.withS (.lst (ts.set i s)) :: tm) σ (v :: vs) F W H := by
  obtain ⟨r1, back⟩ := R.inner (R.mid (ts := [s]) (us := [u]) h rfl) hz hp
  refine back ?_ rfl
  obtain ⟨fA, hA, nd, wf, q⟩ := R.loc (ts := [.lst ts, s]) (us := [v, u]) r1 rfl
  cases hA with
  | cons h1 h2 p =>
    rename_i f1 f2
    cases h2 with
    | cons j1 j2 p2 =>
      cases j2
      rename_i g1
      rw [List.append_nil] at p2
      obtain ⟨x, e1, e2, q1, hx, _, hk2⟩ := rep_child (h1.real rfl) (show (T.lst ts).child (.ix i) = some (.cst u) from hk)
      cases hx
      have r := hk2 F W H s g1 (.refl _) (fun _ z => z) (fun _ _ => rfl) (j1.real hs)
      have pm : fA.Perm (g1 ++ e2) := p.trans ((q1.append_right f2).trans (List.perm_append_comm.trans (p2.append_right _)))
      exact q (us' := [v]) (ts' := [.lst (ts.set i s)]) (fB := g1 ++ e2) ((Step.refl wf).perm (.refl _) pm) (nodup_of_perm pm nd) (.one (.of r))
theorem withS_peek {ρ' : Rho} {s1 : T} (hz : t.noLz = true) (hp : t.peek ρ = some s) (hs : s1.real = true) : (t.withS s1).peek ρ' = some s1 ∧ (t.withS s1).noLz = true := by
  cases t with
  | lz j => cases hz
  | bor j p x s0 => exact ⟨rfl, rfl⟩
  | _ => cases s1 <;> first | exact ⟨rfl, rfl⟩ | cases hs
theorem withS_withS {s1 s2 : T} (hz : t.noLz = true) (hp : t.peek ρ = some s) (h1 : s1.real = true) : (t.withS s1).withS s2 = t.withS s2 := by
  cases t with
  | lz j => cases hz
  | bor j p x s0 => rfl
  | _ => cases s1 <;> first | rfl | cases h1
theorem withS_self (hz : t.noLz = true) (hp : t.peek ρ = some s) : t.withS s = t := by
  cases t with
  | lz j => cases hz
  | bor j p x s0 => cases hp; rfl
  | _ => cases hp; rfl
/-- a slot's tree, taken out whole -/
theorem R.grab {b : Nat} (h : R K I c ρ tm σ vs F W H) (hb : ρ[b]? = some (some s)) : ∃ u, σ[b]? = some (some u) ∧ R K I c (ρ.set b none) (s :: tm) σ (u :: vs) F W H := by
  obtain ⟨u, r, hu⟩ := h.take hb (p := []) rfl
  have k2 := r.forget (i := b)
  rw [List.set_set] at k2
  exact ⟨u, hu rfl, k2⟩
end
end Hz
/-! Hz16: comprehensions over owned parts that are looked at. -/
namespace Hz
open PySem L2 PyProof.Rows
/-- [te for b1, b2 in zip(a, b) if tt], the items owned by the two lists and only looked at -/
def wLcZ (a b : WE) (b1 b2 : Nat) (tt : WT) (te : WE) (wv : List Nat) : WE := fun ρ Qx Q => a ρ Qx fun ta ρ1 => b ρ1 Qx fun tb ρ2 => settle tb ρ2 fun tb' ρ3 => settle ta ρ3 fun ta' ρ4 => ∃ t1 t2, ta'.peek ρ4 = some (.lst t1) ∧ tb'.peek ρ4 = some (.lst t2) ∧
  Inv1 fun Iv : Nat → List T → Rho → Prop => Iv 0 [] (wipeR ρ4 wv) ∧
  (∀ i acc ρ5 c1 c2, t1[i]? = some c1 → t2[i]? = some c2 → Iv i acc ρ5 → tt ((ρ5.set b1 (some c1)).set b2 (some c2)) Qx fun k ρ6 =>
    if k = true then te ρ6 Qx fun t ρ7 => ∃ s ρ8, t.opn ρ7 = some (s, ρ8) ∧ acc.length < 1000000 ∧ ρ8[b1]? = some (some c1) ∧ ρ8[b2]? = some (some c2) ∧ Iv (i + 1) (acc ++ [s]) (wipeR ρ8 wv)
    else ρ6[b1]? = some (some c1) ∧ ρ6[b2]? = some (some c2) ∧ Iv (i + 1) acc (wipeR ρ6 wv)) ∧
  ∀ acc ρ5, Iv (min t1.length t2.length) acc ρ5 → Q (.lst acc) (ta'.drop (tb'.drop ρ5))
section
variable {K : PySem.W.Frag} {I : Sg} {E : XK}
theorem wipeR_set : ∀ {wv : List Nat} {ρ : Rho} {b : Nat}, b ∈ wv → wipeR (ρ.set b none) wv = wipeR ρ wv
  | v :: wv, ρ, b, h => by
    unfold wipeR
    by_cases e : b ∈ wv
    · rw [wipeR_set e]
    · have e' : b = v := (List.mem_cons.mp h).elim (fun q => q) (fun q => absurd q e)
      subst e'
      clear h
      have : ∀ (wv : List Nat), b ∉ wv → ∀ ρ : Rho, wipeR (ρ.set b none) wv = (wipeR ρ wv).set b none := by
        intro wv
        induction wv with
        | nil => intro _ ρ; rfl
        | cons v wv ih =>
          intro hb ρ
          unfold wipeR
          rw [ih (fun z => hb (List.mem_cons_of_mem _ z)), List.set_comm]
          exact fun z => hb (by rw [z]; exact List.mem_cons_self)
      rw [this wv e, List.set_set]
theorem ev_lcZ {wv : List Nat} {ta tb : TE} {wa wb : WE} {b1 b2 : Nat} {tt : TT} {wt : WT} {te : TE} {we : WE} (hp : ∀ i ∈ wv, i ∉ I.prot) (h1 : b1 ∈ wv) (h2 : b2 ∈ wv) (hne : b1 ≠ b2)
    (ha : EvW K I E ta wa) (hb : EvW K I E tb wb) (ht : EvT K (I.more [b1, b2]) E tt wt) (he : EvW K (I.more [b1, b2]) E te we) :
    EvW K I E (tLc (iZip K (tCons ta (tCons tb tNil))) (gTup K 2 (gCons (gName b1) (gCons (gName b2) gNil))) tt te wv) (wLcZ wa wb b1 b2 wt we wv) := fun c ρ tm σ vs F W H r Qx Qv hx q Q k => by
  obtain ⟨tm', hz, r', back⟩ := r.unLz
  refine ha c ρ tm' σ vs F W H r' Qx _ hx q _ fun tA ρ1 vA F1 W1 H1 r1 q1 => hb c ρ1 (tA :: tm') σ (vA :: vs) F1 W1 H1 r1 Qx _ hx q1 _ fun tB ρ2 vB F2 W2 H2 r2 q2 => ?_
  obtain ⟨tB', ρ3, r3, hzB, q3⟩ := r2.settle q2
  obtain ⟨tA', ρ4, r4, hzA, t1, t2, pA, pB, Iv, i0, it, iE⟩ := (R.mid (ts := [tB']) (us := [vB]) r3 rfl).settle q3
  have r5 : R K I c ρ4 (tB' :: tA' :: tm') σ (vB :: vA :: vs) F2 W2 H2 := R.mid (ts := [tA']) (us := [vA]) r4 rfl
  -- what both say of the heap
  have two : ∀ {ρ : Rho} {σ : L2.St} {F : Hp} {W : List Addr} {H : Hp}, R K I c ρ (tB' :: tA' :: tm') σ (vB :: vA :: vs) F W H →
      ∃ a b us ws, vA = .ref a ∧ vB = .ref b ∧ H a = some (.lst us) ∧ H b = some (.lst ws) ∧ us.length = t1.length ∧ ws.length = t2.length := fun {ρ σ F W H} r => by
    obtain ⟨f, hB, _⟩ := r.peek (peek_noLz hzB pB ρ)
    obtain ⟨g, hA, _⟩ := r.drop.peek (peek_noLz hzA pA ρ)
    cases hA with
    | lst a1 a2 _ =>
      cases hB with
      | lst b1 b2 _ => exact ⟨_, _, _, _, rfl, rfl, a1, b1, repA_len a2, repA_len b2⟩
  obtain ⟨a, b, us0, ws0, eA, eB, hA0, hB0, lA0, lB0⟩ := two r5
  subst eA; subst eB
  refine ⟨a, b, us0, ws0, rfl, SqL.of hA0, SqL.of hB0, ?_⟩
  intro D hD
  have hz' : ∀ x ∈ tB' :: tA' :: tm', x.noLz = true := fun x hx => by
    rcases List.mem_cons.mp hx with rfl | hx
    · exact hzB
    · rcases List.mem_cons.mp hx with rfl | hx
      · exact hzA
      · exact hz x hx
  have r6 := (R.wipe r5 hz' hp).newEmpty hD
  generalize hn : min t1.length t2.length = n at iE
  refine ⟨fun i m H => m = n - i ∧ i ≤ n ∧ ∃ ρ F W acc, R K I c ρ (.lst acc :: tB' :: tA' :: tm') (L2.wipe σ wv) (.ref D :: .ref b :: .ref a :: vs) F W H ∧ (∀ j ∈ wv, (ρ[j]?).join = none) ∧ Iv i acc ρ,
    ⟨n, by omega, Nat.zero_le _, _, F2, W2, [], r6, fun j hj => wipeR_none hj, i0⟩, ?_⟩
  rintro i m H3 ⟨rfl, hle, ρ5, F3, W3, acc, r7, hw, iv⟩
  have r8 := R.drop r7
  obtain ⟨a', b', us, ws, eA, eB, hA, hB, lA, lB⟩ := two r8
  cases eA; cases eB
  by_cases hlt : i < n
  · have hi1 : i < t1.length := by omega
    have hi2 : i < t2.length := by omega
    refine .inr ⟨⟨us, ws, us[i]'(by omega), ws[i]'(by omega), SqL.of hA, SqL.of hB, List.getElem?_eq_getElem (by omega), List.getElem?_eq_getElem (by omega)⟩,
      fun H => ∃ ρ F W acc, R K I c ρ (.lst acc :: tB' :: tA' :: tm') (L2.wipe σ wv) (.ref D :: .ref b :: .ref a :: vs) F W H ∧ (∀ j ∈ wv, (ρ[j]?).join = none) ∧ Iv (i + 1) acc ρ, fun H' h => ⟨n - (i + 1), by omega, rfl, hlt, h⟩, fun x H' y => ?_⟩
    obtain ⟨P, x0, x1, e1, e2, e3, e4, e5⟩ := y
    subst e1; subst e3
    have hk1 : t1[i]? = some (t1[i]'hi1) := List.getElem?_eq_getElem hi1
    have hk2 : t2[i]? = some (t2[i]'hi2) := List.getElem?_eq_getElem hi2
    generalize t1[i]'hi1 = c1 at hk1
    generalize t2[i]'hi2 = c2 at hk2
    have hx0 := e4 us (SqL.of hA)
    have hx1 := e5 ws (SqL.of hB)
    -- the two items are taken out
    have s1 : R K I c ρ5 (tB' :: tA' :: .lst acc :: tm') (L2.wipe σ wv) (.ref b :: .ref a :: .ref D :: vs) F3 W3 H3 := R.unmid (ts := [tB', tA']) (us := [.ref b, .ref a]) r7 rfl
    obtain ⟨b', ws', y1, e, hB', hy1, s2⟩ := R.hole s1 hzB (peek_noLz hzB pB ρ5) hk2
    cases e
    rw [hB] at hB'
    cases hB'
    rw [hx1] at hy1
    cases hy1
    have s3 : R K I c ρ5 (tA' :: c2 :: tB'.withS (.lst (t2.set i (.cst x1))) :: .lst acc :: tm') (L2.wipe σ wv) (.ref a :: x1 :: .ref b :: .ref D :: vs) F3 W3 H3 := R.mid (ts := [c2, tB'.withS (.lst (t2.set i (.cst x1)))]) (us := [x1, .ref b]) s2 rfl
    obtain ⟨a', us', y0, e, hA', hy0, s4⟩ := R.hole s3 hzA (peek_noLz hzA pA ρ5) hk1
    cases e
    rw [hA] at hA'
    cases hA'
    rw [hx0] at hy0
    cases hy0
    -- the pair that zip hands out
    have s5 := (s4.cst (v := x1)).cst (v := x0)
    have s6 := R.newTup (ts := [.cst x0, .cst x1]) (us := [x0, x1]) (p := P) s5 rfl rfl e2
    have s7 := R.drop s6
    refine ⟨P, [x0, x1], rfl, SqT.of upd_same, rfl, x0, [x1], rfl, x1, [], rfl, rfl, ?_⟩
    have ew : L2.wipe (((L2.wipe σ wv).set b1 (some x0)).set b2 (some x1)) wv = L2.wipe σ wv := by
      refine wipe_same (as := [b1, b2]) ⟨by rw [List.length_set, List.length_set], fun j hj => ?_⟩ (fun j hj => ?_)
      · rw [List.getElem?_set_ne (fun e => hj (by rw [← e]; simp)), List.getElem?_set_ne (fun e => hj (by rw [← e]; simp))]
      · rcases List.mem_cons.mp hj with rfl | hj
        · exact h1
        · cases List.mem_singleton.mp hj; exact h2
    refine ⟨ew, ?_⟩
    have c1r : c1.real = true := by
      obtain ⟨f, hr, _⟩ := (R.drop s1).peek (peek_noLz hzA pA ρ5)
      cases hr with
      | lst _ g2 _ =>
        obtain ⟨u, f, _, g⟩ := repA_at g2 hk1
        exact rep_real g
    have c2r : c2.real = true := by
      obtain ⟨f, hr, _⟩ := s1.peek (peek_noLz hzB pB ρ5)
      cases hr with
      | lst _ g2 _ =>
        obtain ⟨u, f, _, g⟩ := repA_at g2 hk2
        exact rep_real g
    have pA1 := fun ρ' => withS_peek (ρ' := ρ') (s1 := .lst (t1.set i (.cst x0))) hzA (peek_noLz hzA pA ρ5) rfl
    have pB1 := fun ρ' => withS_peek (ρ' := ρ') (s1 := .lst (t2.set i (.cst x1))) hzB (peek_noLz hzB pB ρ5) rfl
    have nl : ∀ y ∈ tB'.withS (.lst (t2.set i (.cst x1))) :: .lst acc :: tm', y.noLz = true := fun y hy => by
      rcases List.mem_cons.mp hy with rfl | hy
      · exact (pB1 ρ5).2
      · rcases List.mem_cons.mp hy with rfl | hy
        · rfl
        · exact hz y hy
    have s8 : R K I c _ (tA'.withS (.lst (t1.set i (.cst x0))) :: c2 :: tB'.withS (.lst (t2.set i (.cst x1))) :: .lst acc :: tm') _ (.ref a :: x1 :: .ref b :: .ref D :: vs) F3 W3 _ := s7.set c1r (fun y hy => by
      rcases List.mem_cons.mp hy with rfl | hy
      · exact (pA1 ρ5).2
      · rcases List.mem_cons.mp hy with rfl | hy
        · exact real_noLz c2r
        · exact nl y hy) (hp b1 h1)
    have s9 : R K I c _ (tA'.withS (.lst (t1.set i (.cst x0))) :: tB'.withS (.lst (t2.set i (.cst x1))) :: .lst acc :: tm') _ (.ref a :: .ref b :: .ref D :: vs) F3 W3 _ := (R.mid (ts := [tA'.withS (.lst (t1.set i (.cst x0)))]) (us := [.ref a]) s8 rfl).set c2r (fun y hy => by
      rcases List.mem_cons.mp hy with rfl | hy
      · exact (pA1 ρ5).2
      · exact nl y hy) (hp b2 h2)
    obtain ⟨c', ec, s10, bk⟩ := s9.rebase [b1, b2]
    have hx' : XOk K (I.more [b1, b2]) c' E Qx := fun C t ρ σ v d F W H r => hx C t ρ σ v d F W H (bk r)
    -- .. and put back
    have close : ∀ {ρ6 : Rho} {acc' : List T} {σ6 : L2.St} {F6 : Hp} {W6 : List Addr} {H6 : Hp},
        R K (I.more [b1, b2]) c' ρ6 (tA'.withS (.lst (t1.set i (.cst x0))) :: tB'.withS (.lst (t2.set i (.cst x1))) :: .lst acc' :: tm') σ6 (.ref a :: .ref b :: .ref D :: vs) F6 W6 H6 → L2.wipe σ6 wv = L2.wipe σ wv → ρ6[b1]? = some (some c1) → ρ6[b2]? = some (some c2) → Iv (i + 1) acc' (wipeR ρ6 wv) →
        ∃ ρ F W acc, R K I c ρ (.lst acc :: tB' :: tA' :: tm') (L2.wipe σ wv) (.ref D :: .ref b :: .ref a :: vs) F W H6 ∧ (∀ j ∈ wv, (ρ[j]?).join = none) ∧ Iv (i + 1) acc ρ := fun {ρ6 acc' σ6 F6 W6 H6} z ew6 g1 g2 q6 => by
      have p1 := z.pr b1 (List.mem_append_left _ (by simp))
      have p2 := z.pr b2 (List.mem_append_left _ (by simp))
      rw [ec] at p1 p2
      obtain ⟨u1, k1, z1⟩ := (bk z).grab g1
      have g2' : (ρ6.set b1 none)[b2]? = some (some c2) := by rw [List.getElem?_set_ne hne]; exact g2
      obtain ⟨u2, k2, z2⟩ := z1.grab g2'
      have eu1 : u1 = x0 := by
        rw [k1, List.getElem?_set_ne hne.symm] at p1
        rw [List.getElem?_set] at p1
        by_cases hl : b1 < (L2.wipe σ wv).length
        · rw [if_pos rfl, if_pos hl] at p1; cases p1; rfl
        · rw [if_pos rfl, if_neg hl] at p1; cases p1
      have eu2 : u2 = x1 := by
        rw [k2, List.getElem?_set] at p2
        by_cases hl : b2 < ((L2.wipe σ wv).set b1 (some x0)).length
        · rw [if_pos rfl, if_pos hl] at p2; cases p2; rfl
        · rw [if_pos rfl, if_neg hl] at p2; cases p2
      subst eu1; subst eu2
      -- stack: c2 :: c1 :: A :: B :: acc
      have hk1' : (t1.set i (.cst u1))[i]? = some (.cst u1) := List.getElem?_set_self hi1
      have hk2' : (t2.set i (.cst u2))[i]? = some (.cst u2) := List.getElem?_set_self hi2
      have z3 : R K I c _ (c1 :: tA'.withS (.lst (t1.set i (.cst u1))) :: c2 :: tB'.withS (.lst (t2.set i (.cst u2))) :: .lst acc' :: tm') _ (u1 :: .ref a :: u2 :: .ref b :: .ref D :: vs) _ _ _ := R.unmid (ts := [c1, tA'.withS (.lst (t1.set i (.cst u1)))]) (us := [u1, .ref a]) z2 rfl
      have z4 := R.unhole z3 (pA1 ρ5).2 (pA1 _).1 hk1' c1r
      rw [withS_withS hzA (peek_noLz hzA pA ρ5) rfl, List.set_set, show t1.set i c1 = t1 by obtain ⟨hh1, hh2⟩ := List.getElem?_eq_some_iff.mp hk1; rw [← hh2]; exact List.set_getElem_self hh1, withS_self hzA (peek_noLz hzA pA ρ5)] at z4
      have z5 : R K I c _ (c2 :: tB'.withS (.lst (t2.set i (.cst u2))) :: tA' :: .lst acc' :: tm') _ (u2 :: .ref b :: .ref a :: .ref D :: vs) _ _ _ := R.unmid (ts := [c2, tB'.withS (.lst (t2.set i (.cst u2)))]) (us := [u2, .ref b]) z4 rfl
      have z6 := R.unhole z5 (pB1 ρ5).2 (pB1 _).1 hk2' c2r
      rw [withS_withS hzB (peek_noLz hzB pB ρ5) rfl, List.set_set, show t2.set i c2 = t2 by obtain ⟨hh1, hh2⟩ := List.getElem?_eq_some_iff.mp hk2; rw [← hh2]; exact List.set_getElem_self hh1, withS_self hzB (peek_noLz hzB pB ρ5)] at z6
      have z7 : R K I c _ (.lst acc' :: tB' :: tA' :: tm') _ (.ref D :: .ref b :: .ref a :: vs) _ _ _ := R.mid (ts := [tB', tA']) (us := [.ref b, .ref a]) z6 rfl
      have z8 := R.wipe z7 (fun y hy => (List.mem_cons.mp hy).elim (fun e => by rw [e]; rfl) (hz' y)) hp
      rw [ew6, wipeR_set h2, wipeR_set h1] at z8
      exact ⟨_, _, _, acc', z8, fun j hj => wipeR_none hj, q6⟩
    refine ht c' _ _ _ _ F3 W3 _ s10 Qx _ hx' (it i acc ρ5 c1 c2 hk1 hk2 iv) _ fun k' ρ6 F6 W6 H6 z q6 => ?_
    cases k' with
    | false =>
      obtain ⟨g1, g2, q7⟩ := q6
      exact close z ew g1 g2 q7
    | true =>
      refine he c' ρ6 _ _ _ F6 W6 H6 z Qx _ hx' q6 _ fun t ρ7 v F7 W7 H7 z1 ⟨s, ρ8, ho, hla, g1, g2, q8⟩ => ?_
      obtain ⟨z2, hsr⟩ := z1.opn ho
      have z3 : R K (I.more [b1, b2]) c' ρ8 (s :: .lst acc :: tA'.withS (.lst (t1.set i (.cst x0))) :: tB'.withS (.lst (t2.set i (.cst x1))) :: tm') _ (v :: .ref D :: .ref a :: .ref b :: vs) F7 W7 H7 :=
        R.unmid (ts := [s]) (us := [v]) (R.mid (ts := [s, tA'.withS (.lst (t1.set i (.cst x0))), tB'.withS (.lst (t2.set i (.cst x1)))]) (us := [v, .ref a, .ref b]) z2 rfl) rfl
      obtain ⟨a', us', e, hH, hlen, z4⟩ := z3.push hsr
      cases e
      have z5 := R.unmid (ts := [tA'.withS (.lst (t1.set i (.cst x0))), tB'.withS (.lst (t2.set i (.cst x1)))]) (us := [.ref a, .ref b]) z4 rfl
      exact ⟨us', hH, Nat.lt_of_lt_of_le (by omega) (line_of (n := 1000000) (Nat.le_refl _)), close z5 ew g1 g2 q8⟩
  · have e : i = n := by omega
    subst e
    refine .inl ⟨⟨us, ws, SqL.of hA, SqL.of hB, by omega⟩, ?_⟩
    have z1 := R.unwipe r7 (fun x hx => (List.mem_cons.mp hx).elim (fun e => by rw [e]; rfl) (hz' x)) hp hw
    have z2 : R K I c ρ5 (tB' :: tA' :: .lst acc :: tm') σ (.ref b :: .ref a :: .ref D :: vs) F3 W3 H3 := R.unmid (ts := [tB', tA']) (us := [.ref b, .ref a]) z1 rfl
    exact k _ _ _ _ _ _ (back z2.dropT.dropT) (iE acc ρ5 iv)
end
end Hz
/-! Hz17: named rules for what is written often; attributes as targets; binding of arguments. -/
namespace Hz
open PySem L2 PyProof.Rows
section
variable {K : PySem.W.Frag} {I : Sg} {E : XK} {ta tb : TE} {wa wb : WE}
abbrev iAdd (i j : Int) : PyData := .int (i + j)
abbrev iSub (i j : Int) : PyData := .int (i - j)
abbrev iMul (i j : Int) : PyData := .int (i * j)
abbrev iDiv (i j : Int) : PyData := .int (i / j)
abbrev iMod (i j : Int) : PyData := .int (i % j)
abbrev iPow (i j : Int) : PyData := .int (i ^ j.toNat)
abbrev bLt (i j : Int) : PyData := .bool (decide (i < j))
abbrev bLe (i j : Int) : PyData := .bool (decide (i ≤ j))
abbrev bGt (i j : Int) : PyData := .bool (decide (j < i))
abbrev bGe (i j : Int) : PyData := .bool (decide (j ≤ i))
def CMod (_ j : Int) : Prop := 0 < j
theorem ev_add (ha : EvW K I E ta wa) (hb : EvW K I E tb wb) : EvW K I E (tOp (rI0 fun i j => .int (i + j)) ta tb) (wII0 iAdd wa wb) := ev_II0 (fun _ _ _ => .int _) ha hb
theorem ev_sub (ha : EvW K I E ta wa) (hb : EvW K I E tb wb) : EvW K I E (tOp (rI0 fun i j => .int (i - j)) ta tb) (wII0 iSub wa wb) := ev_II0 (fun _ _ _ => .int _) ha hb
theorem ev_mul (ha : EvW K I E ta wa) (hb : EvW K I E tb wb) : EvW K I E (tOp (rI CMul fun i j => .int (i * j)) ta tb) (wII CMul iMul wa wb) := ev_II (fun _ _ _ => .int _) ha hb
theorem ev_fdiv (ha : EvW K I E ta wa) (hb : EvW K I E tb wb) : EvW K I E (tOp (rI CDiv fun i j => .int (i / j)) ta tb) (wII CDiv iDiv wa wb) := ev_II (fun _ _ _ => .int _) ha hb
theorem ev_mod (ha : EvW K I E ta wa) (hb : EvW K I E tb wb) : EvW K I E (tOp (rI (fun _ j => 0 < j) fun i j => .int (i % j)) ta tb) (wII CMod iMod wa wb) := ev_II (C := fun _ j => 0 < j) (fun _ _ _ => .int _) ha hb
theorem ev_pow (ha : EvW K I E ta wa) (hb : EvW K I E tb wb) : EvW K I E (tOp (rI CPow fun i j => .int (i ^ j.toNat)) ta tb) (wII CPow iPow wa wb) := ev_II (fun _ _ _ => .int _) ha hb
theorem ev_lt (ha : EvW K I E ta wa) (hb : EvW K I E tb wb) : EvW K I E (tOp (rI0 fun i j => .bl (decide (i < j))) ta tb) (wII0 bLt wa wb) := ev_II0 (fun _ _ _ => .bl _) ha hb
theorem ev_le (ha : EvW K I E ta wa) (hb : EvW K I E tb wb) : EvW K I E (tOp (rI0 fun i j => .bl (decide (i ≤ j))) ta tb) (wII0 bLe wa wb) := ev_II0 (fun _ _ _ => .bl _) ha hb
theorem ev_gt (ha : EvW K I E ta wa) (hb : EvW K I E tb wb) : EvW K I E (tOp (rI0 fun i j => .bl (decide (j < i))) ta tb) (wII0 bGt wa wb) := ev_II0 (fun _ _ _ => .bl _) ha hb
theorem ev_ge (ha : EvW K I E ta wa) (hb : EvW K I E tb wb) : EvW K I E (tOp (rI0 fun i j => .bl (decide (j ≤ i))) ta tb) (wII0 bGe wa wb) := ev_II0 (fun _ _ _ => .bl _) ha hb
end
theorem passG {X : Cx} {E : XK} : Passes CX0 X E := fun _ _ _ _ _ _ _ h => h.elim
theorem room65 {k : Nat} {A : Around} (hr : Room k A) : A.units + 65 < cLine := by have := hr.un; omega
theorem room64 {k : Nat} {A : Around} (hr : Room k A) : A.units + 64 < cLine := by have := hr.un; omega
/-! ### o.f as a target among others -/
def gFldT (K : PySem.W.Frag) (to : TE) (f : Str) : TG := fun v σ H Q => to σ H fun x H2 => ∃ a C dx fs, x = .ref a ∧ H2 a = some (.ins C dx fs) ∧ Cls K C ∧ NoAttr K C f ∧ fs.length < 1000 ∧ Q σ (upd H2 a (.ins C dx (putF f v fs)))
theorem pg_fldT {X : Cx} {o : Expr} {f : Str} {pos : Pos} {to : TE} (ha : PE X o to) : PG X (.Attribute o f pos) (gFldT X.K to f) := by
  refine ⟨fun pins s σ H v u Q I r h => ?_⟩
  rw [assign_Attribute]
  refine wpAny_bind (wpAny_holding (thn (ha.run pins s σ H _ I h) fun ov s1 ⟨x, H1, I1, rx, a, C, dx, fs, ex, ea, c, n, l, q⟩ => ?_))
  subst ex
  obtain rfl : ov = Value.ref a := rx
  exact wpAny_bind (wpAny_standAt (wpAny_bind (wpAny_holding (setattr_ok I1 ea c n l r fun s2 I2 => wpAny_release ⟨σ, _, I2, q⟩))))
def gFd (C : Addr) (f : Str) (wo : WE) : WG := fun t ρ Qx Q => wo ρ Qx fun u ρ2 => ∃ ns ts ρ3, u.opn ρ2 = some (.ins C ns ts, ρ3) ∧ ns.length < 100 ∧ Q (u.cls (.ins C (putFT f t ns ts).1 (putFT f t ns ts).2) ρ3)
theorem g_fld {K : PySem.W.Frag} {I : Sg} {E : XK} {C : Addr} {f : Str} {to : TE} {wo : WE} (hC : Cls K C) (hf : NoAttr K C f) (ho : EvW K I E to wo) : GvW K I E [] (gFldT K to f) (gFd C f wo) := fun c ρ t tm σ v vs F W H r ht hz Qx Qg D hx k q =>
  ho c ρ (t :: tm) σ (v :: vs) F W H r Qx _ hx q _ fun u ρ2 x F2 W2 H2 r2 ⟨ns, ts, ρ3, hop, hn, q2⟩ => by
    obtain ⟨r3, _⟩ := r2.opn hop
    obtain ⟨a, dx, us, rfl, hH, hl, r4⟩ := R.putFld (f := f) r3 ht
    exact ⟨a, C, dx, _, rfl, hH, hC, hf, by rw [List.length_zip]; omega, k _ _ _ _ _ (R.clsT (t := u) r4 rfl r2.orig) (SameBut.refl _ _) q2⟩
/-! ### binding -/
section
variable {K : PySem.W.Frag} {x qual : Str} {st : Stmt} {f : Addr} {fd : FuncData} {ps ks : List Str} {n : Nat} {mk : {α : Type} → List α → List α → List α}
theorem bindG_mk (F : Fun K x qual st f fd) (hv : ∀ {vs zs : List V} {us ws : List Value}, Vals vs us → Vals zs ws → Vals (mk vs zs) (mk us ws))
    (h : ∀ (kV doc pm : Value) (an : Option Addr) (cdv ct : Value) (us ws : List Value), us.length = n → ws.length = ks.length → bindArgs (PySem.W.fnOf x qual (defArgs st) (defBody st) (defScope st) .none kV doc pm an cdv ct) ⟨us, ks.zip ws⟩ = pure (ps.zip (mk us ws))) : BindG K fd ps n ks mk := by
  obtain ⟨oc, od, kV, doc, pm, an, cdv, ct, osl, rfl, lk, hcd⟩ := F.ex
  exact ⟨fun s us ws _ h1 h2 => .of_eq (h kV doc pm an cdv ct us ws h1 h2), hv⟩
theorem bindM_mk (F : Fun K x qual st f fd) (hv : ∀ {vs zs : List V} {us ws : List Value}, Vals vs us → Vals zs ws → Vals (mk vs zs) (mk us ws))
    (h : ∀ (kV doc pm : Value) (an : Option Addr) (cdv ct : Value) (y : Value) (us ws : List Value), us.length = n → ws.length = ks.length → bindArgs (PySem.W.fnOf x qual (defArgs st) (defBody st) (defScope st) .none kV doc pm an cdv ct) ⟨y :: us, ks.zip ws⟩ = pure (ps.zip (y :: mk us ws))) : BindM K fd ps n ks mk := by
  obtain ⟨oc, od, kV, doc, pm, an, cdv, ct, osl, rfl, lk, hcd⟩ := F.ex
  exact ⟨fun s y us ws _ h1 h2 => .of_eq (h kV doc pm an cdv ct y us ws h1 h2), hv⟩
theorem vals_fst {vs zs : List V} {us ws : List Value} (h : Vals vs us) (_ : Vals zs ws) : Vals vs us := h
theorem vals_app : ∀ {vs zs : List V} {us ws : List Value}, Vals vs us → Vals zs ws → Vals (vs ++ zs) (us ++ ws)
  | _, _, _, _, .nil, h => h
  | _, _, _, _, .cons r h1, h => .cons r (vals_app h1 h)
end
theorem inAdd (i j : Int) (H : Hp) (Q : VK) (h : Q (.int (i + j)) H) : rAdd (.int i) (.int j) H Q := by
  first
    | exact ⟨i, j, rfl, rfl, h⟩
    | exact .inl ⟨i, j, rfl, rfl, h⟩
theorem inSub (i j : Int) (H : Hp) (Q : VK) (h : Q (.int (i - j)) H) : rSub (.int i) (.int j) H Q := by
  first
    | exact ⟨i, j, rfl, rfl, h⟩
    | exact .inl ⟨i, j, rfl, rfl, h⟩
end Hz
/-! Hz18: names for what is printed by the generator. -/
namespace Hz
open PySem L2
theorem bt_len : bootBuiltins "len" = some (.builtin "len") := by decide +kernel
theorem bt_abs : bootBuiltins "abs" = some (.builtin "abs") := by decide +kernel
theorem bt_max : bootBuiltins "max" = some (.builtin "max") := by decide +kernel
theorem bt_min : bootBuiltins "min" = some (.builtin "min") := by decide +kernel
theorem bt_repr : bootBuiltins "repr" = some (.builtin "repr") := by decide +kernel
theorem bt_isinstance : bootBuiltins "isinstance" = some (.builtin "isinstance") := by decide +kernel
theorem bt_sorted : bootBuiltins "sorted" = some (.builtin "sorted") := by decide +kernel
theorem bt_sum : bootBuiltins "sum" = some (.builtin "sum") := by decide +kernel
theorem bt_all : bootBuiltins "all" = some (.builtin "all") := by decide +kernel
theorem bt_any : bootBuiltins "any" = some (.builtin "any") := by decide +kernel
theorem bt_int : bootBuiltins "int" = some (.type "int") := by decide +kernel
theorem bt_bool : bootBuiltins "bool" = some (.type "bool") := by decide +kernel
theorem bt_str : bootBuiltins "str" = some (.type "str") := by decide +kernel
theorem bt_list : bootBuiltins "list" = some (.type "list") := by decide +kernel
theorem bt_tuple : bootBuiltins "tuple" = some (.type "tuple") := by decide +kernel
theorem bt_dict : bootBuiltins "dict" = some (.type "dict") := by decide +kernel
def sAbs : S1 := fun t ρ Q => ∃ i, t = tI i ∧ Q (tI (if i < 0 then -i else i)) ρ
abbrev iMax (i j : Int) : PyData := .int (if j > i then j else i)
abbrev iMin (i j : Int) : PyData := .int (if j < i then j else i)
abbrev iNeg (i : Int) : PyData := .int (-i)
theorem ev_neg {K : PySem.W.Frag} {I : Sg} {E : XK} {ta : TE} {wa : WE} (ha : EvW K I E ta wa) : EvW K I E (tUn (rU fun i => .int (-i)) ta) (wU iNeg wa) := ev_U (fun _ _ => .int _) ha
/-- where nothing comes -/
def sNv : WS := fun _ _ _ => False
theorem sv_never {K : PySem.W.Frag} {I : Sg} {E : XK} : SvW K I E tNever sNv := fun c ρ tm σ vs F W H r hz O Qx D hx d q => q.elim
/-- what a promise asks, weaker -/
theorem spT_mono {K : PySem.W.Frag} {inv : HO → Prop} {W W' : SpT} (h : ∀ ts post ep, W' ts post ep → W ts post ep) : ∀ vs H Q E, spT K inv W' vs H Q E → spT K inv W vs H Q E :=
  fun vs H Q E ⟨ts, fp, F, Wl, post, ep, a, b, c, d, e⟩ => ⟨ts, fp, F, Wl, post, ep, a, b, c, h _ _ _ d, e⟩
end Hz
/-! Hz19: the state, worked out. -/
namespace Hz
open PySem L2
section
variable {ρ : Rho} {j : Nat} {p : List Stp} {v : V} {s t : T} {d : PyData} {ts : List T} {C : Addr} {ns : List Str} {ks : List Key}
theorem drop_bor : (T.bor j p v s).drop ρ = putAt ρ j p v s := rfl
theorem drop_lz : (T.lz j).drop ρ = ρ := rfl
theorem drop_dat : (T.dat d).drop ρ = ρ := rfl
theorem drop_cst : (T.cst v).drop ρ = ρ := rfl
theorem drop_well : T.well.drop ρ = ρ := rfl
theorem drop_lst : (T.lst ts).drop ρ = ρ := rfl
theorem drop_tup : (T.tup ts).drop ρ = ρ := rfl
theorem drop_dic : (T.dic ks ts).drop ρ = ρ := rfl
theorem drop_ins : (T.ins C ns ts).drop ρ = ρ := rfl
theorem opn_bor : (T.bor j p v s).opn ρ = some (s, ρ) := rfl
theorem opn_lz : (T.lz j).opn ρ = (ρ[j]?).join.map fun s => (s, ρ.set j none) := rfl
theorem opn_dat : (T.dat d).opn ρ = some (.dat d, ρ) := rfl
theorem opn_cst : (T.cst v).opn ρ = some (.cst v, ρ) := rfl
theorem opn_well : T.well.opn ρ = some (.well, ρ) := rfl
theorem opn_lst : (T.lst ts).opn ρ = some (.lst ts, ρ) := rfl
theorem opn_tup : (T.tup ts).opn ρ = some (.tup ts, ρ) := rfl
theorem opn_dic : (T.dic ks ts).opn ρ = some (.dic ks ts, ρ) := rfl
theorem opn_ins : (T.ins C ns ts).opn ρ = some (.ins C ns ts, ρ) := rfl
theorem cls_bor : (T.bor j p v s).cls t ρ = putAt ρ j p v t := rfl
theorem cls_lz : (T.lz j).cls t ρ = ρ.set j (some t) := rfl
theorem cls_dat : (T.dat d).cls t ρ = ρ := rfl
theorem cls_cst : (T.cst v).cls t ρ = ρ := rfl
theorem cls_well : T.well.cls t ρ = ρ := rfl
theorem cls_lst : (T.lst ts).cls t ρ = ρ := rfl
theorem cls_tup : (T.tup ts).cls t ρ = ρ := rfl
theorem cls_dic : (T.dic ks ts).cls t ρ = ρ := rfl
theorem cls_ins : (T.ins C ns ts).cls t ρ = ρ := rfl
theorem clsAll_nil {us : Rho} : clsAll [] us ρ = ρ := rfl
theorem clsAll_some {us : Rho} : clsAll (t :: ts) (some s :: us) ρ = clsAll ts us (t.cls s ρ) := rfl
theorem clsAll_none {us : Rho} : clsAll (t :: ts) (none :: us) ρ = clsAll ts us ρ := rfl
theorem putc_lst {n : Nat} : (T.lst ts).putc (.ix n) s = .lst (ts.set n s) := rfl
theorem putc_tup {n : Nat} : (T.tup ts).putc (.ix n) s = .tup (ts.set n s) := rfl
theorem putc_ins {f : Str} : (T.ins C ns ts).putc (.fd f) s = .ins C ns (match fpos ns f with | some i => ts.set i s | none => ts) := rfl
theorem child_lst {n : Nat} : (T.lst ts).child (.ix n) = ts[n]? := rfl
theorem child_tup {n : Nat} : (T.tup ts).child (.ix n) = ts[n]? := rfl
theorem child_ins {f : Str} : (T.ins C ns ts).child (.fd f) = (fpos ns f).bind fun i => ts[i]? := rfl
theorem get_nil : t.get [] = some t := by cases t <;> rfl
theorem get_cons {x : Stp} : t.get (x :: p) = (t.child x).bind fun c => c.get p := by cases t <;> rfl
theorem put_nil : t.put [] s = s := by cases t <;> rfl
theorem put_cons {x : Stp} : t.put (x :: p) s = match t.child x with | some c => t.putc x (c.put p s) | none => t := by cases t <;> rfl
/-- a part goes back to its place -/
theorem putAt_same {t0 : T} (h1 : (ρ[j]?).join = some t0) (h2 : t0.get p = some (.cst v)) : putAt ρ j p v s = ρ.set j (some (t0.put p s)) := by
  unfold putAt
  rw [h1]
  show (match t0.get p with | some (.cst u) => if u = v then ρ.set j (some (t0.put p s)) else ρ | _ => ρ) = _
  rw [h2]
  exact if_pos rfl
theorem putFT_some {f : Str} {i : Nat} (h : fpos ns f = some i) : putFT f t ns ts = (ns, ts.set i t) := by unfold putFT; rw [h]
theorem putFT_none {f : Str} (h : fpos ns f = none) : putFT f t ns ts = (ns ++ [f], ts ++ [t]) := by unfold putFT; rw [h]
end
/-- one of two ways -/
theorem iteD {p : Prop} [Decidable p] {A B : Prop} (h1 : p → A) (h2 : ¬ p → B) : if decide p = true then A else B := by
  by_cases h : p
  · rw [if_pos (decide_eq_true h)]; exact h1 h
  · rw [if_neg (fun z => h (of_decide_eq_true z))]; exact h2 h
end Hz
/-! Hz20: lists of data in trees; indexes. -/
namespace Hz
open PySem L2
theorem pys_map {α : Type} (f : α → PyData) : ∀ xs : List α, T.pys (xs.map fun x => T.dat (f x)) = some (xs.map f)
  | [] => rfl
  | x :: xs => by
    show (match T.py (T.dat (f x)), T.pys (xs.map fun x => T.dat (f x)) with | some d, some ds => some (d :: ds) | _, _ => none) = _
    rw [pys_map f xs]
    rfl
theorem copy_map {α : Type} (f : α → PyData) : ∀ xs : List α, (xs.map fun x => T.dat (f x)).all T.copy = true
  | [] => rfl
  | x :: xs => by rw [List.map_cons, List.all_cons, copy_map f xs]; rfl
theorem real_map {α : Type} (f : α → PyData) : ∀ xs : List α, (xs.map fun x => T.dat (f x)).all T.real = true
  | [] => rfl
  | x :: xs => by rw [List.map_cons, List.all_cons, real_map f xs]; rfl
theorem isDat_map {α : Type} (f : α → PyData) : ∀ xs : List α, (xs.map fun x => T.dat (f x)).all isDat = true
  | [] => rfl
  | x :: xs => by rw [List.map_cons, List.all_cons, isDat_map f xs]; rfl
theorem ixN_of {n : Nat} {i : Int} (h0 : 0 ≤ i) (h : i < n) : ixN n i = some i.toNat := by
  unfold ixN
  simp [h0, h]
theorem sIx_of {n : Nat} {i : Int} (h0 : 0 ≤ i) (h : i ≤ n) (d : Nat) : HT.sIx n d (some i) = i.toNat := by
  show (if i < 0 then (i + (n : Int)).toNat else min i.toNat n) = i.toNat
  rw [if_neg (by omega)]
  omega
theorem cutT_pre {xs : List T} {i : Int} (h0 : 0 ≤ i) (h : i ≤ xs.length) : cutT xs none (some i) = xs.take i.toNat := by
  unfold cutT
  rw [sIx_of h0 h]
  show (xs.drop 0).take (i.toNat - 0) = _
  rfl
theorem cutT_suf {xs : List T} {i : Int} (h0 : 0 ≤ i) (h : i ≤ xs.length) : cutT xs (some i) none = xs.drop i.toNat := by
  unfold cutT
  rw [sIx_of h0 h]
  show (xs.drop i.toNat).take (xs.length - i.toNat) = _
  rw [List.take_of_length_le (by rw [List.length_drop]; exact Nat.le_refl _)]
end Hz
/-! Hz21: data that is compared or shown. -/
namespace Hz
open PySem L2
/-- two texts compared -/
def sEqT (neg : Bool) : S2 := fun t u ρ Q => ∃ x y : Str, t = .dat (.str x) ∧ u = .dat (.str y) ∧ Q (tBo (if neg then !decide (x = y) else decide (x = y))) ρ
theorem dec_str {x y : Str} : decide (V.str x = V.str y) = decide (x = y) := by
  by_cases h : x = y
  · rw [decide_eq_true h, decide_eq_true (by rw [h])]
  · rw [decide_eq_false h, decide_eq_false (fun z => h (V.str.inj z))]
theorem op_eqT {K : PySem.W.Frag} {I : Sg} : Op2 K I rEq (sEqT false) := fun c ρ t u tm σ v w vs F W H r Qv ⟨x, y, e1, e2, q⟩ Q kk => by
  subst e1; subst e2
  have d2 := r.topDat
  have d1 := r.drop.topDat
  cases d1
  cases d2
  refine ⟨rfl, ?_⟩
  rw [dec_str]
  exact kk _ _ _ _ _ _ (r.drop.drop.dat (.bl _)) q
theorem op_neT {K : PySem.W.Frag} {I : Sg} : Op2 K I rNe (sEqT true) := fun c ρ t u tm σ v w vs F W H r Qv ⟨x, y, e1, e2, q⟩ Q kk => by
  subst e1; subst e2
  have d2 := r.topDat
  have d1 := r.drop.topDat
  cases d1
  cases d2
  refine ⟨rfl, ?_⟩
  rw [dec_str]
  exact kk _ _ _ _ _ _ (r.drop.drop.dat (.bl _)) q
theorem ev_eqT {K : PySem.W.Frag} {I : Sg} {E : XK} {ta tb : TE} {wa wb : WE} (ha : EvW K I E ta wa) (hb : EvW K I E tb wb) : EvW K I E (tOp rEq ta tb) (w2 (sEqT false) wa wb) := ev_op2 op_eqT ha hb
theorem ev_neT {K : PySem.W.Frag} {I : Sg} {E : XK} {ta tb : TE} {wa wb : WE} (ha : EvW K I E ta wa) (hb : EvW K I E tb wb) : EvW K I E (tOp rNe ta tb) (w2 (sEqT true) wa wb) := ev_op2 op_neT ha hb
/-! ### plain data -/
theorem shaped_of {d : PyData} (h : d.canLay0 = true) (h2 : d.depth ≤ 64) : SeqAt.shaped d = true := by
  unfold SeqAt.shaped
  rw [h, decide_eq_true h2]
  rfl
theorem lay_map {α : Type} {f : α → PyData} (h : ∀ x, (f x).canLay0 = true) : ∀ xs : List α, PyData.canLayAll0 (xs.map f) = true
  | [] => rfl
  | x :: xs => by
    show ((f x).canLay0 && PyData.canLayAll0 (xs.map f)) = true
    rw [h x, lay_map h xs]
    rfl
theorem depth_map {α : Type} {f : α → PyData} {k : Nat} (h : ∀ x, (f x).depth ≤ k) : ∀ xs : List α, PyData.depthAll (xs.map f) ≤ k
  | [] => Nat.zero_le _
  | x :: xs => Nat.max_le.mpr ⟨h x, depth_map h xs⟩
theorem eqvAll_map {α : Type} [DecidableEq α] {f : α → PyData} (h : ∀ x y, PyData.eqv (f x) (f y) = decide (x = y)) : ∀ xs ys : List α, PyData.eqvAll (xs.map f) (ys.map f) = decide (xs = ys)
  | [], [] => rfl
  | [], _ :: _ => rfl
  | _ :: _, [] => rfl
  | x :: xs, y :: ys => by
    show (PyData.eqv (f x) (f y) && PyData.eqvAll (xs.map f) (ys.map f)) = _
    rw [h, eqvAll_map h xs ys]
    by_cases e1 : x = y <;> by_cases e2 : xs = ys <;> simp [e1, e2]
theorem eqv_int {i j : Int} : PyData.eqv (.int i) (.int j) = decide (i = j) := by
  show (i == j) = _
  rw [Bool.beq_eq_decide_eq]
theorem eqv_bool {i j : Bool} : PyData.eqv (.bool i) (.bool j) = (i == j) := rfl
theorem eqv_ints (es fs : List Int) : PyData.eqvAll (es.map .int) (fs.map .int) = decide (es = fs) := eqvAll_map (fun _ _ => eqv_int) es fs
theorem small_int {i : Int} (h : i.natAbs < 2 ^ 40) : showB (.int i) = true ∧ cost (.int i) ≤ 44 := by
  have h1 : i.natAbs.log2 < 40 := by
    by_cases e : i.natAbs = 0
    · rw [e]; decide
    · exact (Nat.log2_lt e).mpr h
  refine ⟨decide_eq_true (by omega), ?_⟩
  show i.natAbs.log2 + 4 ≤ 44
  omega
theorem small_all {α : Type} {f : α → PyData} {k : Nat} : ∀ {xs : List α}, (∀ x ∈ xs, showB (f x) = true ∧ cost (f x) ≤ k) → showBs (xs.map f) = true ∧ costs (xs.map f) ≤ (k + 2) * xs.length
  | [], _ => ⟨rfl, Nat.zero_le _⟩
  | x :: xs, h => by
    obtain ⟨a1, a2⟩ := h x List.mem_cons_self
    obtain ⟨b1, b2⟩ := small_all (xs := xs) fun y hy => h y (List.mem_cons_of_mem _ hy)
    refine ⟨?_, ?_⟩
    · show (showB (f x) && showBs (xs.map f)) = true
      rw [a1, b1]; rfl
    · show cost (f x) + 2 + costs (xs.map f) ≤ (k + 2) * (xs.length + 1)
      rw [Nat.mul_succ]
      omega
theorem small_ints {es : List Int} (h : ∀ x ∈ es, x.natAbs < 2 ^ 40) : showBs (es.map .int) = true ∧ costs (es.map .int) ≤ 46 * es.length := small_all fun x hx => small_int (h x hx)
theorem kit_self {K : PySem.W.Frag} {t : Value} : PySem.W.kitOne K t t = some true := by
  unfold PySem.W.kitOne
  rw [if_pos (by simp)]
theorem notFirst_self {K : PySem.W.Frag} {C : Addr} : PySem.W.notFirst K C (.ref C) = true := by simp [PySem.W.notFirst]
theorem insOnly {K : PySem.W.Frag} {C : Addr} (h : InsC K C) : ∀ D, Value.ref C = .ref D → InsC K D := fun D e => by cases e; exact h
theorem insNo {K : PySem.W.Frag} {n : String} : ∀ D, Value.type n = .ref D → InsC K D := fun D e => by cases e
theorem iteI {i j : Int} {A B : Prop} (h1 : i = j → A) (h2 : i ≠ j → B) : if PyData.eqv (.int i) (.int j) = true then A else B := by rw [eqv_int]; exact iteD h1 h2
theorem iteNI {i j : Int} {A B : Prop} (h1 : i ≠ j → A) (h2 : i = j → B) : if (!PyData.eqv (.int i) (.int j)) = true then A else B := by
  rw [eqv_int]
  by_cases h : i = j
  · rw [decide_eq_true h]; exact h2 h
  · rw [decide_eq_false h]; exact h1 h
theorem iteN {p : Prop} [Decidable p] {A B : Prop} (h1 : ¬ p → A) (h2 : p → B) : if (!decide p) = true then A else B := by
  by_cases h : p
  · rw [decide_eq_true h]; exact h2 h
  · rw [decide_eq_false h]; exact h1 h
theorem iteT1 {A B : Prop} (h : A) : if true = true then A else B := by rw [if_pos rfl]; exact h
theorem iteF1 {A B : Prop} (h : B) : if false = true then A else B := by rw [if_neg Bool.false_ne_true]; exact h
end Hz
/-! Hz22: two displays compared, their items only looked at. -/
namespace Hz
open PySem L2
def peekAll : List T → Rho → Option (List T)
  | [], _ => some []
  | t :: ts, ρ => match t.peek ρ, peekAll ts ρ with
    | some s, some ss => some (s :: ss)
    | _, _ => none
section
variable {K : PySem.W.Frag} {I : Sg} {c : Ct} {ρ : Rho} {tm : List T} {σ : L2.St} {vs : List V} {F : Hp} {W : List Addr} {H : Hp}
theorem R.skip : ∀ {ts : List T} {us : List V}, R K I c ρ (ts ++ tm) σ (us ++ vs) F W H → us.length = ts.length → R K I c ρ tm σ vs F W H
  | [], [], h, _ => h
  | [], _ :: _, h, e => by cases e
  | _ :: _, [], h, e => by cases e
  | t :: ts, u :: us, h, e => R.skip (ts := ts) (us := us) h.drop (Nat.succ.inj e)
theorem R.dpAll : ∀ {ts ss : List T} {us : List V} {ds : List PyData}, R K I c ρ (ts ++ tm) σ (us ++ vs) F W H → us.length = ts.length → peekAll ts ρ = some ss → T.pys ss = some ds → DpAll K H us ds
  | [], ss, [], ds, h, _, hp, hd => by
    cases hp
    cases hd
    exact .nil
  | [], _, _ :: _, _, h, e, _, _ => by cases e
  | _ :: _, _, [], _, h, e, _, _ => by cases e
  | t :: ts, ss, u :: us, ds, h, e, hp, hd => by
    have hp' : (match t.peek ρ, peekAll ts ρ with | some s, some ss => some (s :: ss) | _, _ => none) = some ss := hp
    cases e1 : t.peek ρ with
    | none => rw [e1] at hp'; cases hp'
    | some s =>
      cases e2 : peekAll ts ρ with
      | none => rw [e1, e2] at hp'; cases hp'
      | some sr =>
        rw [e1, e2] at hp'
        cases hp'
        have hd' : (match s.py, T.pys sr with | some d, some ds => some (d :: ds) | _, _ => none) = some ds := hd
        cases e3 : s.py with
        | none => rw [e3] at hd'; cases hd'
        | some d =>
          cases e4 : T.pys sr with
          | none => rw [e3, e4] at hd'; cases hd'
          | some dr =>
            rw [e3, e4] at hd'
            cases hd'
            obtain ⟨f, hr, _⟩ := R.peek h e1
            exact .cons (dp_of hr (R.sub h) e3) (R.dpAll (ts := ts) (us := us) (R.drop h) (Nat.succ.inj e) e2 e4)
theorem R.csts : ∀ us : List V, R K I c ρ tm σ vs F W H → R K I c ρ (us.map .cst ++ tm) σ (us ++ vs) F W H
  | [], h => h
  | u :: us, h => (R.csts us h).cst
theorem csts_real : ∀ us : List V, (us.map T.cst).all T.real = true
  | [] => rfl
  | u :: us => by rw [List.map_cons, List.all_cons, csts_real us]; rfl
end
def wEqTup (neg : Bool) (wa wb : WA) : WE := fun ρ Qx Q => wa ρ Qx fun ts ρ1 => ts.length ≤ 1000000 ∧ wb ρ1 Qx fun us ρ2 => us.length ≤ 1000000 ∧ ∃ s1 s2 d1 d2, peekAll ts ρ2 = some s1 ∧ peekAll us ρ2 = some s2 ∧ T.pys s1 = some d1 ∧ T.pys s2 = some d2 ∧
  SeqAt.shaped (.tuple d1) = true ∧ SeqAt.shaped (.tuple d2) = true ∧ Q (tBo (if neg then !PyData.eqv (.tuple d1) (.tuple d2) else PyData.eqv (.tuple d1) (.tuple d2))) (dropsT ts (dropsT us ρ2))
section
variable {K : PySem.W.Frag} {I : Sg} {E : XK} {ta tb : TA} {wa wb : WA}
theorem ev_eqTup_core {neg : Bool} {r : R2} (hr : ∀ x y H Q, (∃ d e, Dp K H x d ∧ Dp K H y e ∧ SeqAt.shaped d = true ∧ SeqAt.shaped e = true ∧ Q (.bl (if neg then !PyData.eqv d e else PyData.eqv d e)) H) → r x y H Q)
    (ha : EvA K I E ta wa) (hb : EvA K I E tb wb) : EvW K I E (tOp r (tTup ta) (tTup tb)) (wEqTup neg wa wb) := fun c ρ tm σ vs F W H rr Qx Qv hx hw Q k =>
  ha c ρ tm σ vs F W H rr Qx _ hx hw _ fun ts us ρ1 F1 W1 H1 r1 l1 ⟨z1, q1⟩ => by
    refine ⟨line_of (by rw [l1]; exact z1), fun p hp => ?_⟩
    have r2 := R.newTup (ts := us.map .cst) (us := us) (R.csts us r1) (by rw [List.length_map]) (csts_real us) hp
    refine hb c ρ1 _ σ _ F1 W1 _ r2 Qx _ hx q1 _ fun ts2 us2 ρ2 F2 W2 H2 r3 l2 ⟨z2, s1, s2, d1, d2, p1, p2, e1, e2, h1, h2, q⟩ => ?_
    refine ⟨line_of (by rw [l2]; exact z2), fun p' hp' => ?_⟩
    have r4 := R.newTup (ts := us2.map .cst) (us := us2) (R.csts us2 r3) (by rw [List.length_map]) (csts_real us2) hp'
    -- what both tuples are
    have tupAt : ∀ {ρ : Rho} {xs : List V} {tm : List T} {a : V} {vs : List V} {F : Hp} {W : List Addr} {H : Hp}, R K I c ρ (.tup (xs.map .cst) :: tm) σ (a :: vs) F W H → ∃ b, a = .ref b ∧ H b = some (.tup xs) := fun {ρ xs tm a vs F W H} r => by
      obtain ⟨f, hr, _⟩ := r.peek (s := .tup (xs.map .cst)) rfl
      cases hr with
      | tup g1 g2 _ =>
        refine ⟨_, rfl, ?_⟩
        have : ∀ {us xs : List V} {f : List Addr}, RepA K F W H us (xs.map .cst) f → us = xs := by
          intro us xs
          induction xs generalizing us with
          | nil => intro f h; cases h; rfl
          | cons x xs ih =>
            intro f h
            cases h with
            | cons a b _ =>
              cases a
              rw [ih b]
        rw [← this g2]
        exact g1
    have r5 := r4.drop
    obtain ⟨b, eb, hb1⟩ := tupAt (R.skip r5 l2)
    cases eb
    obtain ⟨b', eb, hb2⟩ := tupAt r4
    cases eb
    have a2 := R.dpAll r5 l2 p2 e2
    have a1 := R.dpAll (R.drop (R.skip r5 l2)) l1 p1 e1
    refine hr _ _ _ _ ⟨.tuple d1, .tuple d2, .tup (SqT.of hb1) a1, .tup (SqT.of hb2) a2, h1, h2, ?_⟩
    have r6 := R.drops r5 l2
    exact k _ _ _ _ _ _ ((R.drops (R.drop r6) l1).dat (.bl _)) q
theorem ev_eqTup (ha : EvA K I E ta wa) (hb : EvA K I E tb wb) : EvW K I E (tOp (rEqD K) (tTup ta) (tTup tb)) (wEqTup false wa wb) := ev_eqTup_core (fun x y H Q h => h) ha hb
theorem ev_neTup (ha : EvA K I E ta wa) (hb : EvA K I E tb wb) : EvW K I E (tOp (rNeD K) (tTup ta) (tTup tb)) (wEqTup true wa wb) := ev_eqTup_core (fun x y H Q h => h) ha hb
end
end Hz
/-! Hz23: trees as data, plain data: by their shape. -/
namespace Hz
open PySem L2
theorem pys_cons {t : T} {ts : List T} {d : PyData} {ds : List PyData} (h1 : t.py = some d) (h2 : T.pys ts = some ds) : T.pys (t :: ts) = some (d :: ds) := by
  show (match t.py, T.pys ts with | some d, some ds => some (d :: ds) | _, _ => none) = _
  rw [h1, h2]
theorem pys_nil : T.pys [] = some [] := rfl
theorem pys_consE {t : T} {ts : List T} : T.pys (t :: ts) = match t.py, T.pys ts with | some d, some ds => some (d :: ds) | _, _ => none := rfl
theorem py_lstE {ts : List T} : (T.lst ts).py = (T.pys ts).map .list := rfl
theorem py_tupE {ts : List T} : (T.tup ts).py = (T.pys ts).map .tuple := rfl
theorem pys_mapD {α : Type} (f : α → PyData) (xs : List α) : T.pys (xs.map fun x => T.dat (f x)) = some (xs.map f) := pys_map f xs
theorem pys_mapI (xs : List Int) : T.pys (xs.map tI) = some (xs.map .int) := pys_map _ xs
theorem dropsT_nil {ρ : Rho} : dropsT [] ρ = ρ := rfl
theorem dropsT_cons {t : T} {ts : List T} {ρ : Rho} : dropsT (t :: ts) ρ = dropsT ts (t.drop ρ) := rfl
theorem py_dat {d : PyData} : (T.dat d).py = some d := rfl
theorem py_lst {ts : List T} {ds : List PyData} (h : T.pys ts = some ds) : (T.lst ts).py = some (.list ds) := by
  show (T.pys ts).map PyData.list = _
  rw [h]; rfl
theorem py_tup {ts : List T} {ds : List PyData} (h : T.pys ts = some ds) : (T.tup ts).py = some (.tuple ds) := by
  show (T.pys ts).map PyData.tuple = _
  rw [h]; rfl
theorem pys_mapL {α : Type} {f : α → T} {g : α → PyData} (h : ∀ x, (f x).py = some (g x)) : ∀ xs : List α, T.pys (xs.map f) = some (xs.map g)
  | [] => rfl
  | x :: xs => pys_cons (h x) (pys_mapL h xs)
theorem pys_app : ∀ {ts us : List T} {ds es : List PyData}, T.pys ts = some ds → T.pys us = some es → T.pys (ts ++ us) = some (ds ++ es)
  | [], us, ds, es, h1, h2 => by cases h1; exact h2
  | t :: ts, us, ds, es, h1, h2 => by
    have h' : (match t.py, T.pys ts with | some d, some ds => some (d :: ds) | _, _ => none) = some ds := h1
    cases e1 : t.py with
    | none => rw [e1] at h'; cases h'
    | some d =>
      cases e2 : T.pys ts with
      | none => rw [e1, e2] at h'; cases h'
      | some dr =>
        rw [e1, e2] at h'
        cases h'
        exact pys_cons e1 (pys_app e2 h2)
/-- data without dicts, at most k deep -/
structure Pl (k : Nat) (d : PyData) : Prop where
  lay : d.canLay0 = true
  deep : d.depth ≤ k
structure PlA (k : Nat) (ds : List PyData) : Prop where
  lay : PyData.canLayAll0 ds = true
  deep : PyData.depthAll ds ≤ k
theorem pl_int {k : Nat} {i : Int} : Pl k (.int i) := ⟨rfl, Nat.zero_le _⟩
theorem pl_bool {k : Nat} {b : Bool} : Pl k (.bool b) := ⟨rfl, Nat.zero_le _⟩
theorem pl_none {k : Nat} : Pl k .none := ⟨rfl, Nat.zero_le _⟩
theorem pl_str {k : Nat} {x : Str} (h : (PyData.str x).canLay0 = true) : Pl k (.str x) := ⟨h, Nat.zero_le _⟩
theorem pl_list {k : Nat} {ds : List PyData} (h : PlA k ds) : Pl (k + 1) (.list ds) := ⟨h.lay, Nat.succ_le_succ h.deep⟩
theorem pl_tuple {k : Nat} {ds : List PyData} (h : PlA k ds) : Pl (k + 1) (.tuple ds) := ⟨h.lay, Nat.succ_le_succ h.deep⟩
theorem plA_nil {k : Nat} : PlA k [] := ⟨rfl, Nat.zero_le _⟩
theorem plA_cons {k : Nat} {d : PyData} {ds : List PyData} (h1 : Pl k d) (h2 : PlA k ds) : PlA k (d :: ds) := by
  refine ⟨?_, Nat.max_le.mpr ⟨h1.deep, h2.deep⟩⟩
  show (d.canLay0 && PyData.canLayAll0 ds) = true
  rw [h1.lay, h2.lay]; rfl
theorem plA_map {α : Type} {f : α → PyData} {k : Nat} (h : ∀ x, Pl k (f x)) (xs : List α) : PlA k (xs.map f) := ⟨lay_map (fun x => (h x).lay) xs, depth_map (fun x => (h x).deep) xs⟩
theorem plA_of {k : Nat} {ds : List PyData} (h : ∀ d ∈ ds, Pl k d) : PlA k ds := by
  induction ds with
  | nil => exact plA_nil
  | cons d ds ih => exact plA_cons (h d List.mem_cons_self) (ih fun x hx => h x (List.mem_cons_of_mem _ hx))
theorem shaped_pl {d : PyData} (h : Pl 64 d) : SeqAt.shaped d = true := shaped_of h.lay h.deep
theorem eqv_list {xs ys : List PyData} : PyData.eqv (.list xs) (.list ys) = PyData.eqvAll xs ys := rfl
theorem eqv_tuple {xs ys : List PyData} : PyData.eqv (.tuple xs) (.tuple ys) = PyData.eqvAll xs ys := rfl
theorem eqvAll_cons {x y : PyData} {xs ys : List PyData} : PyData.eqvAll (x :: xs) (y :: ys) = (PyData.eqv x y && PyData.eqvAll xs ys) := rfl
theorem eqvAll_nil : PyData.eqvAll [] [] = true := rfl
theorem pl_refl {k : Nat} {d : PyData} (h : Pl k d) : PyData.eqv d d = true := PySem.SeqAt.eqv_refl d h.lay
end Hz
/-! Hz24: what slices of data hold. -/
namespace Hz
open PySem L2
theorem cut_mem {xs : List T} {lo hi : Option Int} {x : T} (h : x ∈ cutT xs lo hi) : x ∈ xs := List.mem_of_mem_drop (List.mem_of_mem_take h)
theorem all_cut {xs : List T} {lo hi : Option Int} {p : T → Bool} (h : xs.all p = true) : (cutT xs lo hi).all p = true := List.all_eq_true.mpr fun x hx => List.all_eq_true.mp h x (cut_mem hx)
theorem copy_dats (ds : List PyData) : (ds.map T.dat).all T.copy = true := copy_map _ ds
theorem getD_mem {xs : List T} {i : Nat} (h : i < xs.length) : xs.getD i tN ∈ xs := by
  rw [List.getD_eq_getElem?_getD, List.getElem?_eq_getElem h]
  exact List.getElem_mem h
theorem dats_ints {ns : List Int} {x : T} (h : x ∈ (ns.map PyData.int).map T.dat) : ∃ n, n ∈ ns ∧ x = tI n := by
  obtain ⟨d, hd, rfl⟩ := List.mem_map.mp h
  obtain ⟨n, hn, rfl⟩ := List.mem_map.mp hd
  exact ⟨n, hn, rfl⟩
theorem cut_len {xs : List T} {lo hi : Option Int} : (cutT xs lo hi).length ≤ xs.length := by
  unfold cutT
  rw [List.length_take, List.length_drop]
  omega
end Hz
namespace Hz
open PySem L2
theorem rok_int {i : Int} (h : i.natAbs < 2 ^ 40) : ReprOk (.int i) := by
  obtain ⟨h1, h2⟩ := small_int h
  exact reprOk h1 (Nat.le_trans h2 (by decide)) (Nat.zero_le _)
theorem rok_none : ReprOk .none := reprOk rfl (by decide) (Nat.zero_le _)
theorem rok_bool {b : Bool} : ReprOk (.bool b) := reprOk rfl (by show 5 ≤ 16000000; decide) (Nat.zero_le _)
/-- what is shown alike is alike as a text -/
theorem eqT_self {x : Str} {P : Bool → Prop} (h : P true) : P (if false = true then !decide (x = x) else decide (x = x)) := by
  rw [if_neg Bool.false_ne_true, decide_eq_true rfl]
  exact h
theorem eqT_of {x y : Str} {P : Bool → Prop} (e : x = y) (h : P true) : P (if false = true then !decide (x = y) else decide (x = y)) := by
  rw [if_neg Bool.false_ne_true, decide_eq_true e]
  exact h
end Hz
namespace Hz
open PySem L2
theorem give_dat {t : T} {st : Stp} {d : PyData} {ρ : Rho} {Q : T → Rho → Prop} : give t st (.dat d) ρ Q = Q (.dat d) (t.drop ρ) := if_pos rfl
theorem give_cst {t : T} {st : Stp} {v : V} {ρ : Rho} {Q : T → Rho → Prop} : give t st (.cst v) ρ Q = Q (.cst v) (t.drop ρ) := if_pos rfl
theorem give_well {t : T} {st : Stp} {ρ : Rho} {Q : T → Rho → Prop} : give t st .well ρ Q = Q .well (t.drop ρ) := if_pos rfl
end Hz
namespace Hz
open PySem L2
theorem kit_type {K : PySem.W.Frag} {C : Addr} {n : String} {b : Bool} (h1 : PySem.W.isClsIn K C = true) (h2 : PySem.W.typeIn K (.ref C) = some (.type "type")) (h3 : PySem.W.subIn K (.type n) (.ref C) = some b) : PySem.W.kitOne K (.type n) (.ref C) = some b := by
  unfold PySem.W.isClsIn at h1
  unfold PySem.W.kitOne PySem.W.kitCls
  have hn : (Value.type n == Value.ref C) = false := by simp
  rw [if_neg (by rw [hn]; exact Bool.false_ne_true)]
  show (if ((PySem.W.clsIn K C).isSome && PySem.W.typeIn K (.ref C) == some (.type "type")) = true then PySem.W.subIn K (.type n) (.ref C) else none) = some b
  rw [h1, h2, if_pos (by simp)]
  exact h3
end Hz
namespace K64
open PySem L2 Hz
def top (i : Nat) : Stmt := PySem.Challenge.pw_heapworks_k64_regions_and_marks.main.body.getD i (.Pass ⟨0, 0, 0, 0⟩)
abbrev s_need_number : Stmt := top 4
abbrev s_RegionsU_initU : Stmt := inClass (top 7) 0
abbrev s_Regions_take : Stmt := inClass (top 7) 1
abbrev s_Regions_mark : Stmt := inClass (top 7) 2
abbrev s_Regions_back : Stmt := inClass (top 7) 3
abbrev s_Regions_top : Stmt := inClass (top 7) 4
abbrev s_Regions_marks : Stmt := inClass (top 7) 5
abbrev s_Regions_twin : Stmt := inClass (top 7) 6
abbrev s_RegionsU_eqU : Stmt := inClass (top 7) 7
abbrev s_RegionsU_neU : Stmt := inClass (top 7) 8
abbrev s__law_well : Stmt := top 9
abbrev s__law_draw : Stmt := top 10
abbrev s__law_step : Stmt := top 11
abbrev s__law_shows : Stmt := top 12
abbrev s_law : Stmt := top 13
/-- where things stand -/
structure Ad where
  C_Regions : Addr
  f_need_number : Addr
  d_need_number : FuncData
  f_RegionsU_initU : Addr
  d_RegionsU_initU : FuncData
  f_Regions_take : Addr
  d_Regions_take : FuncData
  f_Regions_mark : Addr
  d_Regions_mark : FuncData
  f_Regions_back : Addr
  d_Regions_back : FuncData
  f_Regions_top : Addr
  d_Regions_top : FuncData
  f_Regions_marks : Addr
  d_Regions_marks : FuncData
  f_Regions_twin : Addr
  d_Regions_twin : FuncData
  f_RegionsU_eqU : Addr
  d_RegionsU_eqU : FuncData
  f_RegionsU_neU : Addr
  d_RegionsU_neU : FuncData
  f__law_well : Addr
  d__law_well : FuncData
  f__law_draw : Addr
  d__law_draw : FuncData
  f__law_step : Addr
  d__law_step : FuncData
  f__law_shows : Addr
  d__law_shows : FuncData
  f_law : Addr
  d_law : FuncData
  v_MOST_CELLS : Value
/-- what the walk asks of the top -/
structure Tx (K : PySem.W.Frag) (mg : Str → Option Value) (a : Ad) : Prop where
  c_Regions : Cls K a.C_Regions
  i_Regions : InsC K a.C_Regions
  g_Regions : mg "Regions" = some (.ref a.C_Regions)
  n_Regions_end : NoAttr K a.C_Regions "end"
  n_Regions_ends : NoAttr K a.C_Regions "ends"
  n_Regions_n : NoAttr K a.C_Regions "n"
  F_need_number : Fun K "need_number" "need_number" s_need_number a.f_need_number a.d_need_number
  g_need_number : mg "need_number" = some (.ref a.f_need_number)
  F_RegionsU_initU : Fun K "__init__" "Regions.__init__" s_RegionsU_initU a.f_RegionsU_initU a.d_RegionsU_initU
  F_Regions_take : Fun K "take" "Regions.take" s_Regions_take a.f_Regions_take a.d_Regions_take
  F_Regions_mark : Fun K "mark" "Regions.mark" s_Regions_mark a.f_Regions_mark a.d_Regions_mark
  F_Regions_back : Fun K "back" "Regions.back" s_Regions_back a.f_Regions_back a.d_Regions_back
  F_Regions_top : Fun K "top" "Regions.top" s_Regions_top a.f_Regions_top a.d_Regions_top
  F_Regions_marks : Fun K "marks" "Regions.marks" s_Regions_marks a.f_Regions_marks a.d_Regions_marks
  F_Regions_twin : Fun K "twin" "Regions.twin" s_Regions_twin a.f_Regions_twin a.d_Regions_twin
  F_RegionsU_eqU : Fun K "__eq__" "Regions.__eq__" s_RegionsU_eqU a.f_RegionsU_eqU a.d_RegionsU_eqU
  F_RegionsU_neU : Fun K "__ne__" "Regions.__ne__" s_RegionsU_neU a.f_RegionsU_neU a.d_RegionsU_neU
  F__law_well : Fun K "_law_well" "_law_well" s__law_well a.f__law_well a.d__law_well
  g__law_well : mg "_law_well" = some (.ref a.f__law_well)
  F__law_draw : Fun K "_law_draw" "_law_draw" s__law_draw a.f__law_draw a.d__law_draw
  g__law_draw : mg "_law_draw" = some (.ref a.f__law_draw)
  F__law_step : Fun K "_law_step" "_law_step" s__law_step a.f__law_step a.d__law_step
  g__law_step : mg "_law_step" = some (.ref a.f__law_step)
  F__law_shows : Fun K "_law_shows" "_law_shows" s__law_shows a.f__law_shows a.d__law_shows
  g__law_shows : mg "_law_shows" = some (.ref a.f__law_shows)
  F_law : Fun K "law" "law" s_law a.f_law a.d_law
  M_RegionsU_eqU : Meth K a.C_Regions "__eq__" a.f_RegionsU_eqU
  M_RegionsU_neU : Meth K a.C_Regions "__ne__" a.f_RegionsU_neU
  M_Regions_back : Meth K a.C_Regions "back" a.f_Regions_back
  M_Regions_mark : Meth K a.C_Regions "mark" a.f_Regions_mark
  M_Regions_marks : Meth K a.C_Regions "marks" a.f_Regions_marks
  M_Regions_take : Meth K a.C_Regions "take" a.f_Regions_take
  M_Regions_top : Meth K a.C_Regions "top" a.f_Regions_top
  M_Regions_twin : Meth K a.C_Regions "twin" a.f_Regions_twin
  K_Regions : Mk K a.C_Regions a.f_RegionsU_initU
  g_MOST_CELLS : mg "MOST_CELLS" = some a.v_MOST_CELLS
  r_MOST_CELLS : RelV (.int 400) a.v_MOST_CELLS
  z_abs : mg "abs" = none
  z_int : mg "int" = none
  z_isinstance : mg "isinstance" = none
  z_len : mg "len" = none
  z_list : mg "list" = none
  z_max : mg "max" = none
  z_min : mg "min" = none
  z_range : mg "range" = none
  z_repr : mg "repr" = none
  z_tuple : mg "tuple" = none
  z_zip : mg "zip" = none
  q_list : PySem.W.kitOne K (.type "list") (.ref a.C_Regions) = some false
  q_none : PySem.W.kitOne K (.type "NoneType") (.ref a.C_Regions) = some false
  s_list : PySem.W.notFirst K a.C_Regions (.type "list") = true
  s_none : PySem.W.notFirst K a.C_Regions (.type "NoneType") = true
section
variable {K : PySem.W.Frag} {mg : Str → Option Value} {a : Ad}
theorem Tx.b_RegionsU_initU_0_n (T : Tx K mg a) : BindM K a.d_RegionsU_initU ["self", "n"] 0 ["n"] (fun us zs => us ++ zs) := bindM_mk T.F_RegionsU_initU vals_app fun _ _ _ _ _ _ _ us ws h1 h2 => match us, ws, h1, h2 with | [], [_], _, _ => rfl
theorem Tx.b_RegionsU_initU_1 (T : Tx K mg a) : BindM K a.d_RegionsU_initU ["self", "n"] 1 [] (fun us _ => us) := bindM_mk T.F_RegionsU_initU vals_fst fun _ _ _ _ _ _ _ us ws h1 h2 => match us, ws, h1, h2 with | [_], [], _, _ => rfl
theorem Tx.b_Regions_back_0_mark (T : Tx K mg a) : BindM K a.d_Regions_back ["self", "mark"] 0 ["mark"] (fun us zs => us ++ zs) := bindM_mk T.F_Regions_back vals_app fun _ _ _ _ _ _ _ us ws h1 h2 => match us, ws, h1, h2 with | [], [_], _, _ => rfl
theorem Tx.b_Regions_back_1 (T : Tx K mg a) : BindM K a.d_Regions_back ["self", "mark"] 1 [] (fun us _ => us) := bindM_mk T.F_Regions_back vals_fst fun _ _ _ _ _ _ _ us ws h1 h2 => match us, ws, h1, h2 with | [_], [], _, _ => rfl
theorem Tx.b_Regions_mark_0 (T : Tx K mg a) : BindM K a.d_Regions_mark ["self"] 0 [] (fun us _ => us) := bindM_mk T.F_Regions_mark vals_fst fun _ _ _ _ _ _ _ us ws h1 h2 => match us, ws, h1, h2 with | [], [], _, _ => rfl
theorem Tx.b_Regions_marks_0 (T : Tx K mg a) : BindM K a.d_Regions_marks ["self"] 0 [] (fun us _ => us) := bindM_mk T.F_Regions_marks vals_fst fun _ _ _ _ _ _ _ us ws h1 h2 => match us, ws, h1, h2 with | [], [], _, _ => rfl
theorem Tx.b_Regions_take_0_size (T : Tx K mg a) : BindM K a.d_Regions_take ["self", "size"] 0 ["size"] (fun us zs => us ++ zs) := bindM_mk T.F_Regions_take vals_app fun _ _ _ _ _ _ _ us ws h1 h2 => match us, ws, h1, h2 with | [], [_], _, _ => rfl
theorem Tx.b_Regions_take_1 (T : Tx K mg a) : BindM K a.d_Regions_take ["self", "size"] 1 [] (fun us _ => us) := bindM_mk T.F_Regions_take vals_fst fun _ _ _ _ _ _ _ us ws h1 h2 => match us, ws, h1, h2 with | [_], [], _, _ => rfl
theorem Tx.b_Regions_top_0 (T : Tx K mg a) : BindM K a.d_Regions_top ["self"] 0 [] (fun us _ => us) := bindM_mk T.F_Regions_top vals_fst fun _ _ _ _ _ _ _ us ws h1 h2 => match us, ws, h1, h2 with | [], [], _, _ => rfl
theorem Tx.b_Regions_twin_0 (T : Tx K mg a) : BindM K a.d_Regions_twin ["self"] 0 [] (fun us _ => us) := bindM_mk T.F_Regions_twin vals_fst fun _ _ _ _ _ _ _ us ws h1 h2 => match us, ws, h1, h2 with | [], [], _, _ => rfl
theorem Tx.b__law_draw_2 (T : Tx K mg a) : BindG K a.d__law_draw ["well", "limit"] 2 [] (fun us _ => us) := bindG_mk T.F__law_draw vals_fst fun _ _ _ _ _ _ us ws h1 h2 => match us, ws, h1, h2 with | [_, _], [], _, _ => rfl
theorem Tx.b__law_shows_2 (T : Tx K mg a) : BindG K a.d__law_shows ["regions", "state"] 2 [] (fun us _ => us) := bindG_mk T.F__law_shows vals_fst fun _ _ _ _ _ _ us ws h1 h2 => match us, ws, h1, h2 with | [_, _], [], _, _ => rfl
theorem Tx.b__law_step_3 (T : Tx K mg a) : BindG K a.d__law_step ["well", "regions", "state"] 3 [] (fun us _ => us) := bindG_mk T.F__law_step vals_fst fun _ _ _ _ _ _ us ws h1 h2 => match us, ws, h1, h2 with | [_, _, _], [], _, _ => rfl
theorem Tx.b__law_well_2 (T : Tx K mg a) : BindG K a.d__law_well ["script", "k"] 2 [] (fun us _ => us) := bindG_mk T.F__law_well vals_fst fun _ _ _ _ _ _ us ws h1 h2 => match us, ws, h1, h2 with | [_, _], [], _, _ => rfl
theorem Tx.b_need_number_3 (T : Tx K mg a) : BindG K a.d_need_number ["number", "low", "high"] 3 [] (fun us _ => us) := bindG_mk T.F_need_number vals_fst fun _ _ _ _ _ _ us ws h1 h2 => match us, ws, h1, h2 with | [_, _, _], [], _, _ => rfl
theorem Tx.bo_RegionsU_eqU (T : Tx K mg a) : BindM K a.d_RegionsU_eqU ["self", "other"] 1 [] (fun us _ => us) := bindM_mk T.F_RegionsU_eqU vals_fst fun _ _ _ _ _ _ _ us ws h1 h2 => match us, ws, h1, h2 with | [_], [], _, _ => rfl
theorem Tx.bo_RegionsU_neU (T : Tx K mg a) : BindM K a.d_RegionsU_neU ["self", "other"] 1 [] (fun us _ => us) := bindM_mk T.F_RegionsU_neU vals_fst fun _ _ _ _ _ _ _ us ws h1 h2 => match us, ws, h1, h2 with | [_], [], _, _ => rfl
end
theorem sc_need_number : FnScope ["number", "low", "high"] ["number", "low", "high"] (defScope s_need_number) := ⟨rfl, rfl, rfl, by decide +kernel, rfl, by decide +kernel, by decide +kernel⟩

theorem sc_RegionsU_initU : FnScope ["self", "n"] ["self", "n"] (defScope s_RegionsU_initU) := ⟨rfl, rfl, rfl, by decide +kernel, rfl, by decide +kernel, by decide +kernel⟩

theorem sc_Regions_take : FnScope ["self", "size"] ["self", "size"] (defScope s_Regions_take) := ⟨rfl, rfl, rfl, by decide +kernel, rfl, by decide +kernel, by decide +kernel⟩

theorem sc_Regions_mark : FnScope ["self"] ["self"] (defScope s_Regions_mark) := ⟨rfl, rfl, rfl, by decide +kernel, rfl, by decide +kernel, by decide +kernel⟩

theorem sc_Regions_back : FnScope ["self", "mark", "before"] ["self", "mark"] (defScope s_Regions_back) := ⟨rfl, rfl, rfl, by decide +kernel, rfl, by decide +kernel, by decide +kernel⟩

theorem sc_Regions_top : FnScope ["self"] ["self"] (defScope s_Regions_top) := ⟨rfl, rfl, rfl, by decide +kernel, rfl, by decide +kernel, by decide +kernel⟩

theorem sc_Regions_marks : FnScope ["self"] ["self"] (defScope s_Regions_marks) := ⟨rfl, rfl, rfl, by decide +kernel, rfl, by decide +kernel, by decide +kernel⟩

theorem sc_Regions_twin : FnScope ["self", "other"] ["self"] (defScope s_Regions_twin) := ⟨rfl, rfl, rfl, by decide +kernel, rfl, by decide +kernel, by decide +kernel⟩

theorem sc_RegionsU_eqU : FnScope ["self", "other"] ["self", "other"] (defScope s_RegionsU_eqU) := ⟨rfl, rfl, rfl, by decide +kernel, rfl, by decide +kernel, by decide +kernel⟩

theorem sc_RegionsU_neU : FnScope ["self", "other"] ["self", "other"] (defScope s_RegionsU_neU) := ⟨rfl, rfl, rfl, by decide +kernel, rfl, by decide +kernel, by decide +kernel⟩

theorem sc__law_well : FnScope ["script", "k", "own", "state", "number"] ["script", "k"] (defScope s__law_well) := ⟨rfl, rfl, rfl, by decide +kernel, rfl, by decide +kernel, by decide +kernel⟩

theorem sc__law_draw : FnScope ["well", "limit", "found"] ["well", "limit"] (defScope s__law_draw) := ⟨rfl, rfl, rfl, by decide +kernel, rfl, by decide +kernel, by decide +kernel⟩

theorem sc__law_step : FnScope ["well", "regions", "state", "way", "size", "due", "mark"] ["well", "regions", "state"] (defScope s__law_step) := ⟨rfl, rfl, rfl, by decide +kernel, rfl, by decide +kernel, by decide +kernel⟩

theorem sc__law_shows : FnScope ["regions", "state"] ["regions", "state"] (defScope s__law_shows) := ⟨rfl, rfl, rfl, by decide +kernel, rfl, by decide +kernel, by decide +kernel⟩

theorem sc_law : FnScope ["script", "k", "well", "n", "other", "pair", "states", "turn", "which", "own", "state", "due"] ["script"] (defScope s_law) := ⟨rfl, rfl, rfl, by decide +kernel, rfl, by decide +kernel, by decide +kernel⟩

theorem fp_Regions_0_n : fpos [] "n" = none := by decide +kernel
theorem fp_Regions_1_end : fpos ["n"] "end" = none := by decide +kernel
theorem fp_Regions_2_ends : fpos ["n", "end"] "ends" = none := by decide +kernel
theorem fp_Regions_3_n : fpos ["n", "end", "ends"] "n" = some 0 := by decide +kernel
theorem fp_Regions_3_end : fpos ["n", "end", "ends"] "end" = some 1 := by decide +kernel
theorem fp_Regions_3_ends : fpos ["n", "end", "ends"] "ends" = some 2 := by decide +kernel
theorem fp_Regions_3_UinitU : fpos ["n", "end", "ends"] "__init__" = none := by decide +kernel
theorem fp_Regions_3_take : fpos ["n", "end", "ends"] "take" = none := by decide +kernel
theorem fp_Regions_3_mark : fpos ["n", "end", "ends"] "mark" = none := by decide +kernel
theorem fp_Regions_3_back : fpos ["n", "end", "ends"] "back" = none := by decide +kernel
theorem fp_Regions_3_top : fpos ["n", "end", "ends"] "top" = none := by decide +kernel
theorem fp_Regions_3_marks : fpos ["n", "end", "ends"] "marks" = none := by decide +kernel
theorem fp_Regions_3_twin : fpos ["n", "end", "ends"] "twin" = none := by decide +kernel
theorem fp_Regions_3_UeqU : fpos ["n", "end", "ends"] "__eq__" = none := by decide +kernel
theorem fp_Regions_3_UneU : fpos ["n", "end", "ends"] "__ne__" = none := by decide +kernel
abbrev tL (es : List Int) : T := .lst (es.map tI)
abbrev RgT (C : Addr) (n e : Int) (es : List Int) : T := .ins C ["n", "end", "ends"] [tI n, tI e, tL es]
end K64

namespace K64
open PySem L2 Hz
def W_need_number (_ : Ad) : SpT := fun ts post _ => ∃ n lo hi : Int, ts = [tI n, tI lo, tI hi] ∧ lo ≤ n ∧ n ≤ hi ∧ post tN [none, none, none]
theorem len_need_number {a : Ad} {ts : List T} {post : T → Rho → Prop} {ep : Addr → T → Rho → Prop} (h : W_need_number a ts post ep) : ts.length = 3 := by
  obtain ⟨n, lo, hi, rfl, _⟩ := h
  rfl

def w_need_number (K : PySem.W.Frag) (a : Ad) : WS := (sIf (bOr (bT (wII0 bLt (wVar 0) (wVar 1))) (bAnd (bT (wIsN true (wVar 2))) (bT (wII0 bGt (wVar 0) (wVar 2))))) sNv sNx)

theorem law_need_number {K : PySem.W.Frag} {mg : Str → Option Value} {a : Ad} (tx : Tx K mg a) : ∀ ts post ep, W_need_number a ts post ep → ts.length = 3 → w_need_number K a (outO [] 3 post) (outX [] 3 ep) (startT 3 ts) := by
  rintro ts post ep ⟨n, lo, hi, rfl, h1, h2, hp⟩ -
  have e1 : decide (n < lo) = false := decide_eq_false (by omega)
  have e2 : decide (hi < n) = false := decide_eq_false (by omega)
  simp only [w_need_number, sSq, sAs, sRt, sRn, sIf, sNx, sNv, sPar, sAugI, sFd, sFdAug, sDr, wC, wCst, wVar, wMv, wII, wII0, wU, wIsN, wAnd, wOr, wNot, wIf, bT, bAnd, bOr, bNot, wEq, aNil, aCons, wTup, wTupO, wLst, w1, w2, wM0, wM1, sIx, sFl, wFld, sLen, sList, sTuple, sCat, sApp, sRepr, sAbs, sII, wSl, oNone, oSome, wFn, wCall, wMeth, wMake, madeT, madeX, Hz.opnAll, Hz.clsAll, gN, gNl, gCn, gTp, gIx, gFd, Hz.T.titems, Hz.T.opn, Hz.T.cls, Hz.T.peek, Hz.T.drop, Hz.putAt, Hz.give, Hz.T.child, Hz.T.putc, Hz.T.get, Hz.T.put, Hz.T.copy, Hz.T.items, Hz.T.isL, Hz.T.py, Hz.T.pys, Hz.T.len, putFT, outO, outX, mask, startT, lstAt, List.getElem?_cons_zero, List.getElem?_cons_succ, List.set_cons_zero, List.set_cons_succ, List.length_cons, List.length_nil, List.map_cons, List.map_nil, List.cons_append, List.nil_append, List.replicate_zero, List.replicate_succ, List.contains_cons, List.contains_nil, Option.join_some, Option.map_some, Option.map_none, Option.bind_some, Option.bind_none, Option.some.injEq, Hz.T.dat.injEq, Hz.T.cst.injEq, Hz.T.lst.injEq, Hz.T.tup.injEq, Hz.T.ins.injEq, PyData.int.injEq, PyData.bool.injEq, Prod.mk.injEq, List.cons.injEq, exists_and_left, exists_and_right, exists_eq_left, exists_eq_left', exists_eq_right, exists_eq, exists_eq', true_and, and_true, ite_true, ite_false, reduceCtorEq, Nat.reduceAdd, Nat.reduceSub, Nat.zero_add, Nat.add_zero, and_self, and_false, false_and, exists_false, exists_const, Bool.false_eq_true, Bool.or_false, Bool.false_or, Bool.or_true, Bool.true_or, Nat.reduceBEq, Nat.succ_ne_zero, beq_self_eq_true, List.all_cons, List.all_nil, Bool.and_true, Bool.true_and, Bool.and_self, Hz.T.real, Hz.T.noLz, not_true_eq_false, not_false_eq_true, fp_Regions_0_n, fp_Regions_1_end, fp_Regions_2_ends, fp_Regions_3_n, fp_Regions_3_end, fp_Regions_3_ends, fp_Regions_3_UinitU, fp_Regions_3_take, fp_Regions_3_mark, fp_Regions_3_back, fp_Regions_3_top, fp_Regions_3_marks, fp_Regions_3_twin, fp_Regions_3_UeqU, fp_Regions_3_UneU, T.isNon, e1, e2]
  simpa [sSq, sAs, sRt, sRn, sIf, sNx, sNv, sPar, sAugI, sFd, sFdAug, sDr, wC, wCst, wVar, wMv, wII, wII0, wU, wIsN, wAnd, wOr, wNot, wIf, bT, bAnd, bOr, bNot, wEq, aNil, aCons, wTup, wTupO, wLst, w1, w2, wM0, wM1, sIx, sFl, wFld, sLen, sList, sTuple, sCat, sApp, sRepr, sAbs, sII, wSl, oNone, oSome, wFn, wCall, wMeth, wMake, madeT, madeX, Hz.opnAll, Hz.clsAll, gN, gNl, gCn, gTp, gIx, gFd, Hz.T.titems, Hz.T.opn, Hz.T.cls, Hz.T.peek, Hz.T.drop, Hz.putAt, Hz.give, Hz.T.child, Hz.T.putc, Hz.T.get, Hz.T.put, Hz.T.copy, Hz.T.items, Hz.T.isL, Hz.T.py, Hz.T.pys, Hz.T.len, putFT, outO, outX, mask, startT, lstAt, List.getElem?_cons_zero, List.getElem?_cons_succ, List.set_cons_zero, List.set_cons_succ, List.length_cons, List.length_nil, List.map_cons, List.map_nil, List.cons_append, List.nil_append, List.replicate_zero, List.replicate_succ, List.contains_cons, List.contains_nil, Option.join_some, Option.map_some, Option.map_none, Option.bind_some, Option.bind_none, Option.some.injEq, Hz.T.dat.injEq, Hz.T.cst.injEq, Hz.T.lst.injEq, Hz.T.tup.injEq, Hz.T.ins.injEq, PyData.int.injEq, PyData.bool.injEq, Prod.mk.injEq, List.cons.injEq, exists_and_left, exists_and_right, exists_eq_left, exists_eq_left', exists_eq_right, exists_eq, exists_eq', true_and, and_true, ite_true, ite_false, reduceCtorEq, Nat.reduceAdd, Nat.reduceSub, Nat.zero_add, Nat.add_zero, and_self, and_false, false_and, exists_false, exists_const, Bool.false_eq_true, Bool.or_false, Bool.false_or, Bool.or_true, Bool.true_or, Nat.reduceBEq, Nat.succ_ne_zero, beq_self_eq_true, List.all_cons, List.all_nil, Bool.and_true, Bool.true_and, Bool.and_self, Hz.T.real, Hz.T.noLz, not_true_eq_false, not_false_eq_true, fp_Regions_0_n, fp_Regions_1_end, fp_Regions_2_ends, fp_Regions_3_n, fp_Regions_3_end, fp_Regions_3_ends, fp_Regions_3_UinitU, fp_Regions_3_take, fp_Regions_3_mark, fp_Regions_3_back, fp_Regions_3_top, fp_Regions_3_marks, fp_Regions_3_twin, fp_Regions_3_UeqU, fp_Regions_3_UneU] using hp
theorem ok_need_number {P : Program} {w : World} {K : PySem.W.Frag} {mg : Str → Option Value} {base : Heap} {a : Ad} (T : Tx K mg a) : FnG P w K mg base CX0 1 a.f_need_number a.d_need_number ["number", "low", "high"] (spT K wellO (W_need_number a)) :=
  fn_T [] T.F_need_number sc_need_number (fun ts post ep h => len_need_number h) (fun cdv A outer s H E hr hg => ⟨_, w_need_number K a,
  (pss_one (ps_if (PW.pt (pw_or (pt_cmpR op_lt (pv 0) (pv 1) (nomark _)) (pw_or1 (PW.pt (pw_and (pt_cmp (pc_notN (pv 2))) (pw_and1 (pt_cmpR op_gt (pv 0) (pv 2) (nomark _)))))))) (pss_one ps_never) pss_nil)),
  (sv_if (et_or (et_test (ev_lt ev_var ev_var)) (et_and (et_B (ev_notN ev_var)) (et_test (ev_gt ev_var ev_var)))) sv_never sv_next),
  law_need_number T⟩)

def W_RegionsU_initU (a : Ad) : SpT := fun ts post _ => ∃ n : Int, ts = [.ins a.C_Regions [] [], tI n] ∧ 1 ≤ n ∧ n ≤ 400 ∧ post tN [some (RgT a.C_Regions n 0 []), none]
theorem len_RegionsU_initU {a : Ad} {ts : List T} {post : T → Rho → Prop} {ep : Addr → T → Rho → Prop} (h : W_RegionsU_initU a ts post ep) : ts.length = 2 := by
  obtain ⟨n, rfl, _⟩ := h
  rfl
/-- self.n, self.end, self.ends = (n, 0, []) .. -/
def t_RegionsU_initU_19 (K : PySem.W.Frag) (a : Ad) : WS := (sAs (wTupO (aCons (wVar 1) (aCons (wC (.int 0)) (aCons (wLst aNil) aNil)))) (gTp 3 (gCn (gFd a.C_Regions "n" (wVar 0)) (gCn (gFd a.C_Regions "end" (wVar 0)) (gCn (gFd a.C_Regions "ends" (wVar 0)) gNl)))))
def w_RegionsU_initU (K : PySem.W.Frag) (a : Ad) : WS := (sSq (sDr (wCall 3 0 (fun us _ => us) (W_need_number a) (aCons (wVar 1) (aCons (wC (.int 1)) (aCons (wC (.int 400)) aNil))) aNil)) (t_RegionsU_initU_19 K a))

theorem law_RegionsU_initU {K : PySem.W.Frag} {mg : Str → Option Value} {a : Ad} (tx : Tx K mg a) : ∀ ts post ep, W_RegionsU_initU a ts post ep → ts.length = 2 → w_RegionsU_initU K a (outO [0] 2 post) (outX [0] 2 ep) (startT 2 ts) := by
  rintro ts post ep ⟨n, rfl, h1, h2, hp⟩ -
  repeat (first | refine And.intro rfl ?_ | apply Exists.intro | refine And.intro (Nat.le_of_ble_eq_true rfl) ?_ | refine And.intro (by decide) ?_ | refine And.intro ⟨_, _, rfl, rfl⟩ ?_ | refine And.intro ⟨_, _, rfl, rfl, rfl⟩ ?_ | refine And.intro (Hz.copy_map _ _) ?_ | refine And.intro (Hz.all_cut (Hz.copy_map _ _)) ?_ | refine And.intro (Hz.pys_map _ _) ?_ | refine And.intro (Hz.real_map _ _) ?_ | refine And.intro Hz.insNo ?_ | refine And.intro (Hz.insOnly tx.i_Regions) ?_ | refine And.intro (Hz.shaped_pl (by ((repeat' (first | exact Hz.pl_int | exact Hz.pl_bool | exact Hz.pl_none | refine Hz.pl_list ?_ | refine Hz.pl_tuple ?_ | exact Hz.plA_nil | refine Hz.plA_cons ?_ ?_ | refine Hz.plA_map (fun _ => ?_) _)); done))) ?_ | refine And.intro (.own _) ?_ | refine And.intro Hz.kit_self ?_ | refine And.intro Hz.notFirst_self ?_ | refine And.intro (show CMul _ _ from .inl ⟨by decide, by decide⟩) ?_ | refine And.intro (show CMul _ _ from .inr ⟨by decide, by decide⟩) ?_ | refine And.intro (show CMod _ _ from (by decide : (0 : Int) < _)) ?_ | refine And.intro (show CDiv _ _ from ⟨by decide, by decide⟩) ?_ | refine And.intro (show CPow _ _ from ⟨by decide, by decide, by decide⟩) ?_ | refine Or.inl (Exists.intro _ (And.intro rfl ?_)) | refine Or.inr (Exists.intro _ (And.intro rfl ?_)) | refine (fun (_ : V) => ?_) | refine (fun (_ : True) => ?_) | simp only [give_dat, give_cst, give_well, pys_nil, pys_consE, py_dat, py_lstE, py_tupE, pys_mapI, pys_mapD, dropsT_nil, dropsT_cons, startT, drop_bor, drop_lz, drop_dat, drop_cst, drop_well, drop_lst, drop_tup, drop_dic, drop_ins, opn_bor, opn_lz, opn_dat, opn_cst, opn_well, opn_lst, opn_tup, opn_dic, opn_ins, cls_bor, cls_lz, cls_dat, cls_cst, cls_well, cls_lst, cls_tup, cls_dic, cls_ins, clsAll_nil, clsAll_some, clsAll_none, Hz.putAt, putc_lst, putc_tup, putc_ins, child_lst, child_tup, child_ins, get_nil, get_cons, put_nil, put_cons, putFT, mask, List.getElem?_cons_zero, List.getElem?_cons_succ, List.set_cons_zero, List.set_cons_succ, Option.join_some, Option.map_some, Option.map_none, Option.bind_some, Option.bind_none, ite_true, ite_false, if_true, if_false, eq_self, Int.reduceToNat, Int.toNat_zero, Int.toNat_one, Int.reduceToNat, List.replicate_zero, List.replicate_succ, List.length_cons, List.length_nil, List.map_cons, List.map_nil, List.cons_append, List.nil_append, Nat.reduceSub, Nat.reduceAdd, Nat.zero_add, fp_Regions_0_n, fp_Regions_1_end, fp_Regions_2_ends, fp_Regions_3_n, fp_Regions_3_end, fp_Regions_3_ends, fp_Regions_3_UinitU, fp_Regions_3_take, fp_Regions_3_mark, fp_Regions_3_back, fp_Regions_3_top, fp_Regions_3_marks, fp_Regions_3_twin, fp_Regions_3_UeqU, fp_Regions_3_UneU] | exact rfl)
  refine ⟨h1, h2, fun _ => ?_⟩
  repeat (first | refine And.intro rfl ?_ | apply Exists.intro | refine And.intro (Nat.le_of_ble_eq_true rfl) ?_ | refine And.intro (by decide) ?_ | refine And.intro ⟨_, _, rfl, rfl⟩ ?_ | refine And.intro ⟨_, _, rfl, rfl, rfl⟩ ?_ | refine And.intro (Hz.copy_map _ _) ?_ | refine And.intro (Hz.all_cut (Hz.copy_map _ _)) ?_ | refine And.intro (Hz.pys_map _ _) ?_ | refine And.intro (Hz.real_map _ _) ?_ | refine And.intro Hz.insNo ?_ | refine And.intro (Hz.insOnly tx.i_Regions) ?_ | refine And.intro (Hz.shaped_pl (by ((repeat' (first | exact Hz.pl_int | exact Hz.pl_bool | exact Hz.pl_none | refine Hz.pl_list ?_ | refine Hz.pl_tuple ?_ | exact Hz.plA_nil | refine Hz.plA_cons ?_ ?_ | refine Hz.plA_map (fun _ => ?_) _)); done))) ?_ | refine And.intro (.own _) ?_ | refine And.intro Hz.kit_self ?_ | refine And.intro Hz.notFirst_self ?_ | refine And.intro (show CMul _ _ from .inl ⟨by decide, by decide⟩) ?_ | refine And.intro (show CMul _ _ from .inr ⟨by decide, by decide⟩) ?_ | refine And.intro (show CMod _ _ from (by decide : (0 : Int) < _)) ?_ | refine And.intro (show CDiv _ _ from ⟨by decide, by decide⟩) ?_ | refine And.intro (show CPow _ _ from ⟨by decide, by decide, by decide⟩) ?_ | refine Or.inl (Exists.intro _ (And.intro rfl ?_)) | refine Or.inr (Exists.intro _ (And.intro rfl ?_)) | refine (fun (_ : V) => ?_) | refine (fun (_ : True) => ?_) | simp only [give_dat, give_cst, give_well, pys_nil, pys_consE, py_dat, py_lstE, py_tupE, pys_mapI, pys_mapD, dropsT_nil, dropsT_cons, startT, drop_bor, drop_lz, drop_dat, drop_cst, drop_well, drop_lst, drop_tup, drop_dic, drop_ins, opn_bor, opn_lz, opn_dat, opn_cst, opn_well, opn_lst, opn_tup, opn_dic, opn_ins, cls_bor, cls_lz, cls_dat, cls_cst, cls_well, cls_lst, cls_tup, cls_dic, cls_ins, clsAll_nil, clsAll_some, clsAll_none, Hz.putAt, putc_lst, putc_tup, putc_ins, child_lst, child_tup, child_ins, get_nil, get_cons, put_nil, put_cons, putFT, mask, List.getElem?_cons_zero, List.getElem?_cons_succ, List.set_cons_zero, List.set_cons_succ, Option.join_some, Option.map_some, Option.map_none, Option.bind_some, Option.bind_none, ite_true, ite_false, if_true, if_false, eq_self, Int.reduceToNat, Int.toNat_zero, Int.toNat_one, Int.reduceToNat, List.replicate_zero, List.replicate_succ, List.length_cons, List.length_nil, List.map_cons, List.map_nil, List.cons_append, List.nil_append, Nat.reduceSub, Nat.reduceAdd, Nat.zero_add, fp_Regions_0_n, fp_Regions_1_end, fp_Regions_2_ends, fp_Regions_3_n, fp_Regions_3_end, fp_Regions_3_ends, fp_Regions_3_UinitU, fp_Regions_3_take, fp_Regions_3_mark, fp_Regions_3_back, fp_Regions_3_top, fp_Regions_3_marks, fp_Regions_3_twin, fp_Regions_3_UeqU, fp_Regions_3_UneU] | exact rfl)
  exact hp
theorem ok_RegionsU_initU {P : Program} {w : World} {K : PySem.W.Frag} {mg : Str → Option Value} {base : Heap} {a : Ad} (T : Tx K mg a) : FnG P w K mg base CX0 2 a.f_RegionsU_initU a.d_RegionsU_initU ["self", "n"] (spT K wellO (W_RegionsU_initU a)) :=
  fn_T [0] T.F_RegionsU_initU sc_RegionsU_initU (fun ts post ep h => len_RegionsU_initU h) (fun cdv A outer s H E hr hg => ⟨_, w_RegionsU_initU K a,
  (pss_cons (ps_expr (pg_call (ok_need_number T) (by exact hr.mono (by decide)) (by exact hg) (by rfl) (by exact T.g_need_number) (by exact T.F_need_number.kp) T.b_need_number_3 passG (pa_cons (pv 1) (pa_cons pe_int (pa_cons (pe_glob (v := .int 400) (by rfl) (by exact T.g_MOST_CELLS) T.r_MOST_CELLS) pa_nil)))))
  (pss_one (ps_asg (pe_tup (pa_cons (pv 1) (pa_cons pe_int (pa_cons (pe_lst pa_nil) pa_nil)))) (pg_tup rfl (pgs_cons (pg_fldT (pv 0)) (pgs_cons (pg_fldT (pv 0)) (pgs_cons (pg_fldT (pv 0)) pgs_nil))))))),
  (sv_seq (sv_drop (ev_call (Wf := W_need_number a) (n := 3) (m := 0) mk_pos (ea_cons ev_var (ea_cons ev_int (ea_cons (ev_c (fun _ => .int 400)) ea_nil))) ea_nil))
  (sv_asg (ev_tupO (ea_cons ev_var (ea_cons ev_int (ea_cons (ev_lst ea_nil) ea_nil)))) (g_tup (g_cons (g_fld T.c_Regions T.n_Regions_n ev_var) (g_cons (g_fld T.c_Regions T.n_Regions_end ev_var) (g_cons (g_fld T.c_Regions T.n_Regions_ends ev_var) g_nil)))))),
  law_RegionsU_initU T⟩)

def W_Regions_take (a : Ad) : SpT := fun ts post _ => ∃ (n e size : Int) (es : List Int), ts = [RgT a.C_Regions n e es, tI size] ∧ 1 ≤ size ∧ size ≤ 400 ∧ (e + size ≤ n → post (tI e) [some (RgT a.C_Regions n (e + size) es), none]) ∧ (n < e + size → post tN [some (RgT a.C_Regions n e es), none])
theorem len_Regions_take {a : Ad} {ts : List T} {post : T → Rho → Prop} {ep : Addr → T → Rho → Prop} (h : W_Regions_take a ts post ep) : ts.length = 2 := by
  obtain ⟨n, e, size, es, rfl, _⟩ := h
  rfl
/-- return self.end - size .. -/
def t_Regions_take_26 (K : PySem.W.Frag) (a : Ad) : WS := (sRt (wII0 iSub (wFld a.C_Regions "end" (wVar 0)) (wVar 1)))
/-- self.end += size .. -/
def t_Regions_take_25 (K : PySem.W.Frag) (a : Ad) : WS := (sSq (sFdAug a.C_Regions "end" (fun i j => i + j) (wVar 0) (wVar 1)) (t_Regions_take_26 K a))
/-- if self.end + size > self.n: .. -/
def t_Regions_take_23 (K : PySem.W.Frag) (a : Ad) : WS := (sSq (sIf (bT (wII0 bGt (wII0 iAdd (wFld a.C_Regions "end" (wVar 0)) (wVar 1)) (wFld a.C_Regions "n" (wVar 0)))) (sRt (wC .none)) sNx) (t_Regions_take_25 K a))
def w_Regions_take (K : PySem.W.Frag) (a : Ad) : WS := (sSq (sDr (wCall 3 0 (fun us _ => us) (W_need_number a) (aCons (wVar 1) (aCons (wC (.int 1)) (aCons (wC (.int 400)) aNil))) aNil)) (t_Regions_take_23 K a))

theorem law_Regions_take {K : PySem.W.Frag} {mg : Str → Option Value} {a : Ad} (tx : Tx K mg a) : ∀ ts post ep, W_Regions_take a ts post ep → ts.length = 2 → w_Regions_take K a (outO [0] 2 post) (outX [0] 2 ep) (startT 2 ts) := by
  rintro ts post ep ⟨n, e, size, es, rfl, h1, h2, hp, hq⟩ -
  repeat (first | refine And.intro rfl ?_ | apply Exists.intro | refine And.intro (Nat.le_of_ble_eq_true rfl) ?_ | refine And.intro (by decide) ?_ | refine And.intro ⟨_, _, rfl, rfl⟩ ?_ | refine And.intro ⟨_, _, rfl, rfl, rfl⟩ ?_ | refine And.intro (Hz.copy_map _ _) ?_ | refine And.intro (Hz.all_cut (Hz.copy_map _ _)) ?_ | refine And.intro (Hz.pys_map _ _) ?_ | refine And.intro (Hz.real_map _ _) ?_ | refine And.intro Hz.insNo ?_ | refine And.intro (Hz.insOnly tx.i_Regions) ?_ | refine And.intro (Hz.shaped_pl (by ((repeat' (first | exact Hz.pl_int | exact Hz.pl_bool | exact Hz.pl_none | refine Hz.pl_list ?_ | refine Hz.pl_tuple ?_ | exact Hz.plA_nil | refine Hz.plA_cons ?_ ?_ | refine Hz.plA_map (fun _ => ?_) _)); done))) ?_ | refine And.intro (.own _) ?_ | refine And.intro Hz.kit_self ?_ | refine And.intro Hz.notFirst_self ?_ | refine And.intro (show CMul _ _ from .inl ⟨by decide, by decide⟩) ?_ | refine And.intro (show CMul _ _ from .inr ⟨by decide, by decide⟩) ?_ | refine And.intro (show CMod _ _ from (by decide : (0 : Int) < _)) ?_ | refine And.intro (show CDiv _ _ from ⟨by decide, by decide⟩) ?_ | refine And.intro (show CPow _ _ from ⟨by decide, by decide, by decide⟩) ?_ | refine Or.inl (Exists.intro _ (And.intro rfl ?_)) | refine Or.inr (Exists.intro _ (And.intro rfl ?_)) | refine (fun (_ : V) => ?_) | refine (fun (_ : True) => ?_) | simp only [give_dat, give_cst, give_well, pys_nil, pys_consE, py_dat, py_lstE, py_tupE, pys_mapI, pys_mapD, dropsT_nil, dropsT_cons, startT, drop_bor, drop_lz, drop_dat, drop_cst, drop_well, drop_lst, drop_tup, drop_dic, drop_ins, opn_bor, opn_lz, opn_dat, opn_cst, opn_well, opn_lst, opn_tup, opn_dic, opn_ins, cls_bor, cls_lz, cls_dat, cls_cst, cls_well, cls_lst, cls_tup, cls_dic, cls_ins, clsAll_nil, clsAll_some, clsAll_none, Hz.putAt, putc_lst, putc_tup, putc_ins, child_lst, child_tup, child_ins, get_nil, get_cons, put_nil, put_cons, putFT, mask, List.getElem?_cons_zero, List.getElem?_cons_succ, List.set_cons_zero, List.set_cons_succ, Option.join_some, Option.map_some, Option.map_none, Option.bind_some, Option.bind_none, ite_true, ite_false, if_true, if_false, eq_self, Int.reduceToNat, Int.toNat_zero, Int.toNat_one, Int.reduceToNat, List.replicate_zero, List.replicate_succ, List.length_cons, List.length_nil, List.map_cons, List.map_nil, List.cons_append, List.nil_append, Nat.reduceSub, Nat.reduceAdd, Nat.zero_add, fp_Regions_0_n, fp_Regions_1_end, fp_Regions_2_ends, fp_Regions_3_n, fp_Regions_3_end, fp_Regions_3_ends, fp_Regions_3_UinitU, fp_Regions_3_take, fp_Regions_3_mark, fp_Regions_3_back, fp_Regions_3_top, fp_Regions_3_marks, fp_Regions_3_twin, fp_Regions_3_UeqU, fp_Regions_3_UneU] | exact rfl)
  refine ⟨h1, h2, fun _ => ?_⟩
  repeat (first | refine And.intro rfl ?_ | apply Exists.intro | refine And.intro (Nat.le_of_ble_eq_true rfl) ?_ | refine And.intro (by decide) ?_ | refine And.intro ⟨_, _, rfl, rfl⟩ ?_ | refine And.intro ⟨_, _, rfl, rfl, rfl⟩ ?_ | refine And.intro (Hz.copy_map _ _) ?_ | refine And.intro (Hz.all_cut (Hz.copy_map _ _)) ?_ | refine And.intro (Hz.pys_map _ _) ?_ | refine And.intro (Hz.real_map _ _) ?_ | refine And.intro Hz.insNo ?_ | refine And.intro (Hz.insOnly tx.i_Regions) ?_ | refine And.intro (Hz.shaped_pl (by ((repeat' (first | exact Hz.pl_int | exact Hz.pl_bool | exact Hz.pl_none | refine Hz.pl_list ?_ | refine Hz.pl_tuple ?_ | exact Hz.plA_nil | refine Hz.plA_cons ?_ ?_ | refine Hz.plA_map (fun _ => ?_) _)); done))) ?_ | refine And.intro (.own _) ?_ | refine And.intro Hz.kit_self ?_ | refine And.intro Hz.notFirst_self ?_ | refine And.intro (show CMul _ _ from .inl ⟨by decide, by decide⟩) ?_ | refine And.intro (show CMul _ _ from .inr ⟨by decide, by decide⟩) ?_ | refine And.intro (show CMod _ _ from (by decide : (0 : Int) < _)) ?_ | refine And.intro (show CDiv _ _ from ⟨by decide, by decide⟩) ?_ | refine And.intro (show CPow _ _ from ⟨by decide, by decide, by decide⟩) ?_ | refine Or.inl (Exists.intro _ (And.intro rfl ?_)) | refine Or.inr (Exists.intro _ (And.intro rfl ?_)) | refine (fun (_ : V) => ?_) | refine (fun (_ : True) => ?_) | simp only [give_dat, give_cst, give_well, pys_nil, pys_consE, py_dat, py_lstE, py_tupE, pys_mapI, pys_mapD, dropsT_nil, dropsT_cons, startT, drop_bor, drop_lz, drop_dat, drop_cst, drop_well, drop_lst, drop_tup, drop_dic, drop_ins, opn_bor, opn_lz, opn_dat, opn_cst, opn_well, opn_lst, opn_tup, opn_dic, opn_ins, cls_bor, cls_lz, cls_dat, cls_cst, cls_well, cls_lst, cls_tup, cls_dic, cls_ins, clsAll_nil, clsAll_some, clsAll_none, Hz.putAt, putc_lst, putc_tup, putc_ins, child_lst, child_tup, child_ins, get_nil, get_cons, put_nil, put_cons, putFT, mask, List.getElem?_cons_zero, List.getElem?_cons_succ, List.set_cons_zero, List.set_cons_succ, Option.join_some, Option.map_some, Option.map_none, Option.bind_some, Option.bind_none, ite_true, ite_false, if_true, if_false, eq_self, Int.reduceToNat, Int.toNat_zero, Int.toNat_one, Int.reduceToNat, List.replicate_zero, List.replicate_succ, List.length_cons, List.length_nil, List.map_cons, List.map_nil, List.cons_append, List.nil_append, Nat.reduceSub, Nat.reduceAdd, Nat.zero_add, fp_Regions_0_n, fp_Regions_1_end, fp_Regions_2_ends, fp_Regions_3_n, fp_Regions_3_end, fp_Regions_3_ends, fp_Regions_3_UinitU, fp_Regions_3_take, fp_Regions_3_mark, fp_Regions_3_back, fp_Regions_3_top, fp_Regions_3_marks, fp_Regions_3_twin, fp_Regions_3_UeqU, fp_Regions_3_UneU] | exact rfl)
  refine ite2 (fun c => ?_) (fun c => ?_)
  · have c' := of_decide_eq_true c
    repeat (first | refine And.intro rfl ?_ | apply Exists.intro | refine And.intro (Nat.le_of_ble_eq_true rfl) ?_ | refine And.intro (by decide) ?_ | refine And.intro ⟨_, _, rfl, rfl⟩ ?_ | refine And.intro ⟨_, _, rfl, rfl, rfl⟩ ?_ | refine And.intro (Hz.copy_map _ _) ?_ | refine And.intro (Hz.all_cut (Hz.copy_map _ _)) ?_ | refine And.intro (Hz.pys_map _ _) ?_ | refine And.intro (Hz.real_map _ _) ?_ | refine And.intro Hz.insNo ?_ | refine And.intro (Hz.insOnly tx.i_Regions) ?_ | refine And.intro (Hz.shaped_pl (by ((repeat' (first | exact Hz.pl_int | exact Hz.pl_bool | exact Hz.pl_none | refine Hz.pl_list ?_ | refine Hz.pl_tuple ?_ | exact Hz.plA_nil | refine Hz.plA_cons ?_ ?_ | refine Hz.plA_map (fun _ => ?_) _)); done))) ?_ | refine And.intro (.own _) ?_ | refine And.intro Hz.kit_self ?_ | refine And.intro Hz.notFirst_self ?_ | refine And.intro (show CMul _ _ from .inl ⟨by decide, by decide⟩) ?_ | refine And.intro (show CMul _ _ from .inr ⟨by decide, by decide⟩) ?_ | refine And.intro (show CMod _ _ from (by decide : (0 : Int) < _)) ?_ | refine And.intro (show CDiv _ _ from ⟨by decide, by decide⟩) ?_ | refine And.intro (show CPow _ _ from ⟨by decide, by decide, by decide⟩) ?_ | refine Or.inl (Exists.intro _ (And.intro rfl ?_)) | refine Or.inr (Exists.intro _ (And.intro rfl ?_)) | refine (fun (_ : V) => ?_) | refine (fun (_ : True) => ?_) | simp only [give_dat, give_cst, give_well, pys_nil, pys_consE, py_dat, py_lstE, py_tupE, pys_mapI, pys_mapD, dropsT_nil, dropsT_cons, startT, drop_bor, drop_lz, drop_dat, drop_cst, drop_well, drop_lst, drop_tup, drop_dic, drop_ins, opn_bor, opn_lz, opn_dat, opn_cst, opn_well, opn_lst, opn_tup, opn_dic, opn_ins, cls_bor, cls_lz, cls_dat, cls_cst, cls_well, cls_lst, cls_tup, cls_dic, cls_ins, clsAll_nil, clsAll_some, clsAll_none, Hz.putAt, putc_lst, putc_tup, putc_ins, child_lst, child_tup, child_ins, get_nil, get_cons, put_nil, put_cons, putFT, mask, List.getElem?_cons_zero, List.getElem?_cons_succ, List.set_cons_zero, List.set_cons_succ, Option.join_some, Option.map_some, Option.map_none, Option.bind_some, Option.bind_none, ite_true, ite_false, if_true, if_false, eq_self, Int.reduceToNat, Int.toNat_zero, Int.toNat_one, Int.reduceToNat, List.replicate_zero, List.replicate_succ, List.length_cons, List.length_nil, List.map_cons, List.map_nil, List.cons_append, List.nil_append, Nat.reduceSub, Nat.reduceAdd, Nat.zero_add, fp_Regions_0_n, fp_Regions_1_end, fp_Regions_2_ends, fp_Regions_3_n, fp_Regions_3_end, fp_Regions_3_ends, fp_Regions_3_UinitU, fp_Regions_3_take, fp_Regions_3_mark, fp_Regions_3_back, fp_Regions_3_top, fp_Regions_3_marks, fp_Regions_3_twin, fp_Regions_3_UeqU, fp_Regions_3_UneU] | exact rfl)
    exact hq (by omega)
  · have c' := of_decide_eq_false (Bool.eq_false_iff.mpr c)
    repeat (first | refine And.intro rfl ?_ | apply Exists.intro | refine And.intro (Nat.le_of_ble_eq_true rfl) ?_ | refine And.intro (by decide) ?_ | refine And.intro ⟨_, _, rfl, rfl⟩ ?_ | refine And.intro ⟨_, _, rfl, rfl, rfl⟩ ?_ | refine And.intro (Hz.copy_map _ _) ?_ | refine And.intro (Hz.all_cut (Hz.copy_map _ _)) ?_ | refine And.intro (Hz.pys_map _ _) ?_ | refine And.intro (Hz.real_map _ _) ?_ | refine And.intro Hz.insNo ?_ | refine And.intro (Hz.insOnly tx.i_Regions) ?_ | refine And.intro (Hz.shaped_pl (by ((repeat' (first | exact Hz.pl_int | exact Hz.pl_bool | exact Hz.pl_none | refine Hz.pl_list ?_ | refine Hz.pl_tuple ?_ | exact Hz.plA_nil | refine Hz.plA_cons ?_ ?_ | refine Hz.plA_map (fun _ => ?_) _)); done))) ?_ | refine And.intro (.own _) ?_ | refine And.intro Hz.kit_self ?_ | refine And.intro Hz.notFirst_self ?_ | refine And.intro (show CMul _ _ from .inl ⟨by decide, by decide⟩) ?_ | refine And.intro (show CMul _ _ from .inr ⟨by decide, by decide⟩) ?_ | refine And.intro (show CMod _ _ from (by decide : (0 : Int) < _)) ?_ | refine And.intro (show CDiv _ _ from ⟨by decide, by decide⟩) ?_ | refine And.intro (show CPow _ _ from ⟨by decide, by decide, by decide⟩) ?_ | refine Or.inl (Exists.intro _ (And.intro rfl ?_)) | refine Or.inr (Exists.intro _ (And.intro rfl ?_)) | refine (fun (_ : V) => ?_) | refine (fun (_ : True) => ?_) | simp only [give_dat, give_cst, give_well, pys_nil, pys_consE, py_dat, py_lstE, py_tupE, pys_mapI, pys_mapD, dropsT_nil, dropsT_cons, startT, drop_bor, drop_lz, drop_dat, drop_cst, drop_well, drop_lst, drop_tup, drop_dic, drop_ins, opn_bor, opn_lz, opn_dat, opn_cst, opn_well, opn_lst, opn_tup, opn_dic, opn_ins, cls_bor, cls_lz, cls_dat, cls_cst, cls_well, cls_lst, cls_tup, cls_dic, cls_ins, clsAll_nil, clsAll_some, clsAll_none, Hz.putAt, putc_lst, putc_tup, putc_ins, child_lst, child_tup, child_ins, get_nil, get_cons, put_nil, put_cons, putFT, mask, List.getElem?_cons_zero, List.getElem?_cons_succ, List.set_cons_zero, List.set_cons_succ, Option.join_some, Option.map_some, Option.map_none, Option.bind_some, Option.bind_none, ite_true, ite_false, if_true, if_false, eq_self, Int.reduceToNat, Int.toNat_zero, Int.toNat_one, Int.reduceToNat, List.replicate_zero, List.replicate_succ, List.length_cons, List.length_nil, List.map_cons, List.map_nil, List.cons_append, List.nil_append, Nat.reduceSub, Nat.reduceAdd, Nat.zero_add, fp_Regions_0_n, fp_Regions_1_end, fp_Regions_2_ends, fp_Regions_3_n, fp_Regions_3_end, fp_Regions_3_ends, fp_Regions_3_UinitU, fp_Regions_3_take, fp_Regions_3_mark, fp_Regions_3_back, fp_Regions_3_top, fp_Regions_3_marks, fp_Regions_3_twin, fp_Regions_3_UeqU, fp_Regions_3_UneU] | exact rfl)
    have e1 : e + size - size = e := by omega
    show post (tI (e + size - size)) [some (RgT a.C_Regions n (e + size) es), none]
    rw [e1]
    exact hp (by omega)
theorem ok_Regions_take {P : Program} {w : World} {K : PySem.W.Frag} {mg : Str → Option Value} {base : Heap} {a : Ad} (T : Tx K mg a) : FnG P w K mg base CX0 2 a.f_Regions_take a.d_Regions_take ["self", "size"] (spT K wellO (W_Regions_take a)) :=
  fn_T [0] T.F_Regions_take sc_Regions_take (fun ts post ep h => len_Regions_take h) (fun cdv A outer s H E hr hg => ⟨_, w_Regions_take K a,
  (pss_cons (ps_expr (pg_call (ok_need_number T) (by exact hr.mono (by decide)) (by exact hg) (by rfl) (by exact T.g_need_number) (by exact T.F_need_number.kp) T.b_need_number_3 passG (pa_cons (pv 1) (pa_cons pe_int (pa_cons (pe_glob (v := .int 400) (by rfl) (by exact T.g_MOST_CELLS) T.r_MOST_CELLS) pa_nil)))))
  (pss_cons (ps_if (pt_cmpR op_gt (pe_op op_add (pe_fld (pv 0) rfl) (pv 1)) (pe_fld (pv 0) rfl) (nomark _)) (pss_one (ps_ret pe_non)) pss_nil)
  (pss_cons (ps_fldaug (pv 0) (pv 1) in_add)
  (pss_one (ps_ret (pe_op op_sub (pe_fld (pv 0) rfl) (pv 1))))))),
  (sv_seq (sv_drop (ev_call (Wf := W_need_number a) (n := 3) (m := 0) mk_pos (ea_cons ev_var (ea_cons ev_int (ea_cons (ev_c (fun _ => .int 400)) ea_nil))) ea_nil))
  (sv_seq (sv_if (et_test (ev_gt (ev_add (ev_fld T.c_Regions T.n_Regions_end ev_var) ev_var) (ev_fld T.c_Regions T.n_Regions_n ev_var))) (sv_ret ev_non) sv_next)
  (sv_seq (sv_fldaug inAdd T.c_Regions T.n_Regions_end ev_var ev_var)
  (sv_ret (ev_sub (ev_fld T.c_Regions T.n_Regions_end ev_var) ev_var))))),
  law_Regions_take T⟩)

def W_Regions_mark (a : Ad) : SpT := fun ts post _ => ∃ (n e : Int) (es : List Int), ts = [RgT a.C_Regions n e es] ∧ es.length < 1000 ∧ post (tI es.length) [some (RgT a.C_Regions n e (es ++ [e]))]
theorem len_Regions_mark {a : Ad} {ts : List T} {post : T → Rho → Prop} {ep : Addr → T → Rho → Prop} (h : W_Regions_mark a ts post ep) : ts.length = 1 := by
  obtain ⟨n, e, es, rfl, _⟩ := h
  rfl
/-- return len(self.ends) - 1 .. -/
def t_Regions_mark_30 (K : PySem.W.Frag) (a : Ad) : WS := (sRt (wII0 iSub (w1 sLen (wFld a.C_Regions "ends" (wVar 0))) (wC (.int 1))))
def w_Regions_mark (K : PySem.W.Frag) (a : Ad) : WS := (sSq (sDr (wM1 sApp (wFld a.C_Regions "ends" (wVar 0)) (wFld a.C_Regions "end" (wVar 0)))) (t_Regions_mark_30 K a))

theorem law_Regions_mark {K : PySem.W.Frag} {mg : Str → Option Value} {a : Ad} (tx : Tx K mg a) : ∀ ts post ep, W_Regions_mark a ts post ep → ts.length = 1 → w_Regions_mark K a (outO [0] 1 post) (outX [0] 1 ep) (startT 1 ts) := by
  rintro ts post ep ⟨n, e, es, rfl, h1, hp⟩ -
  repeat (first | refine And.intro rfl ?_ | apply Exists.intro | refine And.intro (Nat.le_of_ble_eq_true rfl) ?_ | refine And.intro (by decide) ?_ | refine And.intro ⟨_, _, rfl, rfl⟩ ?_ | refine And.intro ⟨_, _, rfl, rfl, rfl⟩ ?_ | refine And.intro (Hz.copy_map _ _) ?_ | refine And.intro (Hz.all_cut (Hz.copy_map _ _)) ?_ | refine And.intro (Hz.pys_map _ _) ?_ | refine And.intro (Hz.real_map _ _) ?_ | refine And.intro Hz.insNo ?_ | refine And.intro (Hz.insOnly tx.i_Regions) ?_ | refine And.intro (Hz.shaped_pl (by ((repeat' (first | exact Hz.pl_int | exact Hz.pl_bool | exact Hz.pl_none | refine Hz.pl_list ?_ | refine Hz.pl_tuple ?_ | exact Hz.plA_nil | refine Hz.plA_cons ?_ ?_ | refine Hz.plA_map (fun _ => ?_) _)); done))) ?_ | refine And.intro (.own _) ?_ | refine And.intro Hz.kit_self ?_ | refine And.intro Hz.notFirst_self ?_ | refine And.intro (show CMul _ _ from .inl ⟨by decide, by decide⟩) ?_ | refine And.intro (show CMul _ _ from .inr ⟨by decide, by decide⟩) ?_ | refine And.intro (show CMod _ _ from (by decide : (0 : Int) < _)) ?_ | refine And.intro (show CDiv _ _ from ⟨by decide, by decide⟩) ?_ | refine And.intro (show CPow _ _ from ⟨by decide, by decide, by decide⟩) ?_ | refine Or.inl (Exists.intro _ (And.intro rfl ?_)) | refine Or.inr (Exists.intro _ (And.intro rfl ?_)) | refine (fun (_ : V) => ?_) | refine (fun (_ : True) => ?_) | simp only [give_dat, give_cst, give_well, pys_nil, pys_consE, py_dat, py_lstE, py_tupE, pys_mapI, pys_mapD, dropsT_nil, dropsT_cons, startT, drop_bor, drop_lz, drop_dat, drop_cst, drop_well, drop_lst, drop_tup, drop_dic, drop_ins, opn_bor, opn_lz, opn_dat, opn_cst, opn_well, opn_lst, opn_tup, opn_dic, opn_ins, cls_bor, cls_lz, cls_dat, cls_cst, cls_well, cls_lst, cls_tup, cls_dic, cls_ins, clsAll_nil, clsAll_some, clsAll_none, Hz.putAt, putc_lst, putc_tup, putc_ins, child_lst, child_tup, child_ins, get_nil, get_cons, put_nil, put_cons, putFT, mask, List.getElem?_cons_zero, List.getElem?_cons_succ, List.set_cons_zero, List.set_cons_succ, Option.join_some, Option.map_some, Option.map_none, Option.bind_some, Option.bind_none, ite_true, ite_false, if_true, if_false, eq_self, Int.reduceToNat, Int.toNat_zero, Int.toNat_one, Int.reduceToNat, List.replicate_zero, List.replicate_succ, List.length_cons, List.length_nil, List.map_cons, List.map_nil, List.cons_append, List.nil_append, Nat.reduceSub, Nat.reduceAdd, Nat.zero_add, fp_Regions_0_n, fp_Regions_1_end, fp_Regions_2_ends, fp_Regions_3_n, fp_Regions_3_end, fp_Regions_3_ends, fp_Regions_3_UinitU, fp_Regions_3_take, fp_Regions_3_mark, fp_Regions_3_back, fp_Regions_3_top, fp_Regions_3_marks, fp_Regions_3_twin, fp_Regions_3_UeqU, fp_Regions_3_UneU] | exact rfl)
  refine ⟨by rw [List.length_map]; omega, ?_⟩
  repeat (first | refine And.intro rfl ?_ | apply Exists.intro | refine And.intro (Nat.le_of_ble_eq_true rfl) ?_ | refine And.intro (by decide) ?_ | refine And.intro ⟨_, _, rfl, rfl⟩ ?_ | refine And.intro ⟨_, _, rfl, rfl, rfl⟩ ?_ | refine And.intro (Hz.copy_map _ _) ?_ | refine And.intro (Hz.all_cut (Hz.copy_map _ _)) ?_ | refine And.intro (Hz.pys_map _ _) ?_ | refine And.intro (Hz.real_map _ _) ?_ | refine And.intro Hz.insNo ?_ | refine And.intro (Hz.insOnly tx.i_Regions) ?_ | refine And.intro (Hz.shaped_pl (by ((repeat' (first | exact Hz.pl_int | exact Hz.pl_bool | exact Hz.pl_none | refine Hz.pl_list ?_ | refine Hz.pl_tuple ?_ | exact Hz.plA_nil | refine Hz.plA_cons ?_ ?_ | refine Hz.plA_map (fun _ => ?_) _)); done))) ?_ | refine And.intro (.own _) ?_ | refine And.intro Hz.kit_self ?_ | refine And.intro Hz.notFirst_self ?_ | refine And.intro (show CMul _ _ from .inl ⟨by decide, by decide⟩) ?_ | refine And.intro (show CMul _ _ from .inr ⟨by decide, by decide⟩) ?_ | refine And.intro (show CMod _ _ from (by decide : (0 : Int) < _)) ?_ | refine And.intro (show CDiv _ _ from ⟨by decide, by decide⟩) ?_ | refine And.intro (show CPow _ _ from ⟨by decide, by decide, by decide⟩) ?_ | refine Or.inl (Exists.intro _ (And.intro rfl ?_)) | refine Or.inr (Exists.intro _ (And.intro rfl ?_)) | refine (fun (_ : V) => ?_) | refine (fun (_ : True) => ?_) | simp only [give_dat, give_cst, give_well, pys_nil, pys_consE, py_dat, py_lstE, py_tupE, pys_mapI, pys_mapD, dropsT_nil, dropsT_cons, startT, drop_bor, drop_lz, drop_dat, drop_cst, drop_well, drop_lst, drop_tup, drop_dic, drop_ins, opn_bor, opn_lz, opn_dat, opn_cst, opn_well, opn_lst, opn_tup, opn_dic, opn_ins, cls_bor, cls_lz, cls_dat, cls_cst, cls_well, cls_lst, cls_tup, cls_dic, cls_ins, clsAll_nil, clsAll_some, clsAll_none, Hz.putAt, putc_lst, putc_tup, putc_ins, child_lst, child_tup, child_ins, get_nil, get_cons, put_nil, put_cons, putFT, mask, List.getElem?_cons_zero, List.getElem?_cons_succ, List.set_cons_zero, List.set_cons_succ, Option.join_some, Option.map_some, Option.map_none, Option.bind_some, Option.bind_none, ite_true, ite_false, if_true, if_false, eq_self, Int.reduceToNat, Int.toNat_zero, Int.toNat_one, Int.reduceToNat, List.replicate_zero, List.replicate_succ, List.length_cons, List.length_nil, List.map_cons, List.map_nil, List.cons_append, List.nil_append, Nat.reduceSub, Nat.reduceAdd, Nat.zero_add, fp_Regions_0_n, fp_Regions_1_end, fp_Regions_2_ends, fp_Regions_3_n, fp_Regions_3_end, fp_Regions_3_ends, fp_Regions_3_UinitU, fp_Regions_3_take, fp_Regions_3_mark, fp_Regions_3_back, fp_Regions_3_top, fp_Regions_3_marks, fp_Regions_3_twin, fp_Regions_3_UeqU, fp_Regions_3_UneU] | exact rfl)
  have e1 : ((List.map tI es ++ [tI e]).length : Int) - 1 = es.length := by simp
  have e2 : List.map tI es ++ [tI e] = List.map tI (es ++ [e]) := by simp
  show post (tI (((List.map tI es ++ [tI e]).length : Int) - 1)) [some (.ins a.C_Regions ["n", "end", "ends"] [tI n, tI e, .lst (List.map tI es ++ [tI e])])]
  rw [e1, e2]
  exact hp
theorem ok_Regions_mark {P : Program} {w : World} {K : PySem.W.Frag} {mg : Str → Option Value} {base : Heap} {a : Ad} (T : Tx K mg a) : FnG P w K mg base CX0 1 a.f_Regions_mark a.d_Regions_mark ["self"] (spT K wellO (W_Regions_mark a)) :=
  fn_T [0] T.F_Regions_mark sc_Regions_mark (fun ts post ep h => len_Regions_mark h) (fun cdv A outer s H E hr hg => ⟨_, w_Regions_mark K a,
  (pss_cons (ps_expr (pe_bm PySem.F.plainAttrs_list PySem.F.slot_list_append PySem.F.type_list_append mt_append (pe_fld (pv 0) rfl) (pa_cons (pe_fld (pv 0) rfl) pa_nil)))
  (pss_one (ps_ret (pe_op op_sub (pe_callB call_len (by rfl) (by exact T.z_len) bt_len (pa_cons (pe_fld (pv 0) rfl) pa_nil)) pe_int)))),
  (sv_seq (sv_drop (ev_mt1 op_app (ev_fld T.c_Regions T.n_Regions_ends ev_var) (ev_fld T.c_Regions T.n_Regions_end ev_var)))
  (sv_ret (ev_sub (ev_call1 op_len (ev_fld T.c_Regions T.n_Regions_ends ev_var)) ev_int))),
  law_Regions_mark T⟩)

def W_Regions_back (a : Ad) : SpT := fun ts post _ => ∃ (n e m x : Int) (es : List Int), ts = [RgT a.C_Regions n e es, tI m] ∧ 0 ≤ m ∧ m < es.length ∧ es[m.toNat]? = some x ∧ post (tI (e - x)) [some (RgT a.C_Regions n x (es.take m.toNat)), none]
theorem len_Regions_back {a : Ad} {ts : List T} {post : T → Rho → Prop} {ep : Addr → T → Rho → Prop} (h : W_Regions_back a ts post ep) : ts.length = 2 := by
  obtain ⟨n, e, m, x, es, rfl, _⟩ := h
  rfl
/-- return before - self.end .. -/
def t_Regions_back_36 (K : PySem.W.Frag) (a : Ad) : WS := (sRt (wII0 iSub (wVar 2) (wFld a.C_Regions "end" (wVar 0))))
/-- self.ends = self.ends[:mark] .. -/
def t_Regions_back_35 (K : PySem.W.Frag) (a : Ad) : WS := (sSq (sFd a.C_Regions "ends" (wSl (wFld a.C_Regions "ends" (wVar 0)) oNone (oSome (wVar 1))) (wVar 0)) (t_Regions_back_36 K a))
/-- before, self.end = (self.end, self.ends[mark]) .. -/
def t_Regions_back_34 (K : PySem.W.Frag) (a : Ad) : WS := (sSq (sAs (wTupO (aCons (wFld a.C_Regions "end" (wVar 0)) (aCons (w2 sIx (wFld a.C_Regions "ends" (wVar 0)) (wVar 1)) aNil))) (gTp 2 (gCn (gN 2) (gCn (gFd a.C_Regions "end" (wVar 0)) gNl)))) (t_Regions_back_35 K a))
def w_Regions_back (K : PySem.W.Frag) (a : Ad) : WS := (sSq (sDr (wCall 3 0 (fun us _ => us) (W_need_number a) (aCons (wVar 1) (aCons (wC (.int 0)) (aCons (wII0 iSub (w1 sLen (wFld a.C_Regions "ends" (wVar 0))) (wC (.int 1))) aNil))) aNil)) (t_Regions_back_34 K a))

theorem law_Regions_back {K : PySem.W.Frag} {mg : Str → Option Value} {a : Ad} (tx : Tx K mg a) : ∀ ts post ep, W_Regions_back a ts post ep → ts.length = 2 → w_Regions_back K a (outO [0] 2 post) (outX [0] 2 ep) (startT 3 ts) := by
  rintro ts post ep ⟨n, e, m, x, es, rfl, h0, h1, hx, hp⟩ -
  repeat (first | refine And.intro rfl ?_ | apply Exists.intro | refine And.intro (Nat.le_of_ble_eq_true rfl) ?_ | refine And.intro (by decide) ?_ | refine And.intro ⟨_, _, rfl, rfl⟩ ?_ | refine And.intro ⟨_, _, rfl, rfl, rfl⟩ ?_ | refine And.intro (Hz.copy_map _ _) ?_ | refine And.intro (Hz.all_cut (Hz.copy_map _ _)) ?_ | refine And.intro (Hz.pys_map _ _) ?_ | refine And.intro (Hz.real_map _ _) ?_ | refine And.intro Hz.insNo ?_ | refine And.intro (Hz.insOnly tx.i_Regions) ?_ | refine And.intro (Hz.shaped_pl (by ((repeat' (first | exact Hz.pl_int | exact Hz.pl_bool | exact Hz.pl_none | refine Hz.pl_list ?_ | refine Hz.pl_tuple ?_ | exact Hz.plA_nil | refine Hz.plA_cons ?_ ?_ | refine Hz.plA_map (fun _ => ?_) _)); done))) ?_ | refine And.intro (.own _) ?_ | refine And.intro Hz.kit_self ?_ | refine And.intro Hz.notFirst_self ?_ | refine And.intro (show CMul _ _ from .inl ⟨by decide, by decide⟩) ?_ | refine And.intro (show CMul _ _ from .inr ⟨by decide, by decide⟩) ?_ | refine And.intro (show CMod _ _ from (by decide : (0 : Int) < _)) ?_ | refine And.intro (show CDiv _ _ from ⟨by decide, by decide⟩) ?_ | refine And.intro (show CPow _ _ from ⟨by decide, by decide, by decide⟩) ?_ | refine Or.inl (Exists.intro _ (And.intro rfl ?_)) | refine Or.inr (Exists.intro _ (And.intro rfl ?_)) | refine (fun (_ : V) => ?_) | refine (fun (_ : True) => ?_) | simp only [give_dat, give_cst, give_well, pys_nil, pys_consE, py_dat, py_lstE, py_tupE, pys_mapI, pys_mapD, dropsT_nil, dropsT_cons, startT, drop_bor, drop_lz, drop_dat, drop_cst, drop_well, drop_lst, drop_tup, drop_dic, drop_ins, opn_bor, opn_lz, opn_dat, opn_cst, opn_well, opn_lst, opn_tup, opn_dic, opn_ins, cls_bor, cls_lz, cls_dat, cls_cst, cls_well, cls_lst, cls_tup, cls_dic, cls_ins, clsAll_nil, clsAll_some, clsAll_none, Hz.putAt, putc_lst, putc_tup, putc_ins, child_lst, child_tup, child_ins, get_nil, get_cons, put_nil, put_cons, putFT, mask, List.getElem?_cons_zero, List.getElem?_cons_succ, List.set_cons_zero, List.set_cons_succ, Option.join_some, Option.map_some, Option.map_none, Option.bind_some, Option.bind_none, ite_true, ite_false, if_true, if_false, eq_self, Int.reduceToNat, Int.toNat_zero, Int.toNat_one, Int.reduceToNat, List.replicate_zero, List.replicate_succ, List.length_cons, List.length_nil, List.map_cons, List.map_nil, List.cons_append, List.nil_append, Nat.reduceSub, Nat.reduceAdd, Nat.zero_add, fp_Regions_0_n, fp_Regions_1_end, fp_Regions_2_ends, fp_Regions_3_n, fp_Regions_3_end, fp_Regions_3_ends, fp_Regions_3_UinitU, fp_Regions_3_take, fp_Regions_3_mark, fp_Regions_3_back, fp_Regions_3_top, fp_Regions_3_marks, fp_Regions_3_twin, fp_Regions_3_UeqU, fp_Regions_3_UneU] | exact rfl)
  refine ⟨h0, by rw [List.length_map]; omega, fun _ => ?_⟩
  repeat (first | refine And.intro rfl ?_ | apply Exists.intro | refine And.intro (Nat.le_of_ble_eq_true rfl) ?_ | refine And.intro (by decide) ?_ | refine And.intro ⟨_, _, rfl, rfl⟩ ?_ | refine And.intro ⟨_, _, rfl, rfl, rfl⟩ ?_ | refine And.intro (Hz.copy_map _ _) ?_ | refine And.intro (Hz.all_cut (Hz.copy_map _ _)) ?_ | refine And.intro (Hz.pys_map _ _) ?_ | refine And.intro (Hz.real_map _ _) ?_ | refine And.intro Hz.insNo ?_ | refine And.intro (Hz.insOnly tx.i_Regions) ?_ | refine And.intro (Hz.shaped_pl (by ((repeat' (first | exact Hz.pl_int | exact Hz.pl_bool | exact Hz.pl_none | refine Hz.pl_list ?_ | refine Hz.pl_tuple ?_ | exact Hz.plA_nil | refine Hz.plA_cons ?_ ?_ | refine Hz.plA_map (fun _ => ?_) _)); done))) ?_ | refine And.intro (.own _) ?_ | refine And.intro Hz.kit_self ?_ | refine And.intro Hz.notFirst_self ?_ | refine And.intro (show CMul _ _ from .inl ⟨by decide, by decide⟩) ?_ | refine And.intro (show CMul _ _ from .inr ⟨by decide, by decide⟩) ?_ | refine And.intro (show CMod _ _ from (by decide : (0 : Int) < _)) ?_ | refine And.intro (show CDiv _ _ from ⟨by decide, by decide⟩) ?_ | refine And.intro (show CPow _ _ from ⟨by decide, by decide, by decide⟩) ?_ | refine Or.inl (Exists.intro _ (And.intro rfl ?_)) | refine Or.inr (Exists.intro _ (And.intro rfl ?_)) | refine (fun (_ : V) => ?_) | refine (fun (_ : True) => ?_) | simp only [give_dat, give_cst, give_well, pys_nil, pys_consE, py_dat, py_lstE, py_tupE, pys_mapI, pys_mapD, dropsT_nil, dropsT_cons, startT, drop_bor, drop_lz, drop_dat, drop_cst, drop_well, drop_lst, drop_tup, drop_dic, drop_ins, opn_bor, opn_lz, opn_dat, opn_cst, opn_well, opn_lst, opn_tup, opn_dic, opn_ins, cls_bor, cls_lz, cls_dat, cls_cst, cls_well, cls_lst, cls_tup, cls_dic, cls_ins, clsAll_nil, clsAll_some, clsAll_none, Hz.putAt, putc_lst, putc_tup, putc_ins, child_lst, child_tup, child_ins, get_nil, get_cons, put_nil, put_cons, putFT, mask, List.getElem?_cons_zero, List.getElem?_cons_succ, List.set_cons_zero, List.set_cons_succ, Option.join_some, Option.map_some, Option.map_none, Option.bind_some, Option.bind_none, ite_true, ite_false, if_true, if_false, eq_self, Int.reduceToNat, Int.toNat_zero, Int.toNat_one, Int.reduceToNat, List.replicate_zero, List.replicate_succ, List.length_cons, List.length_nil, List.map_cons, List.map_nil, List.cons_append, List.nil_append, Nat.reduceSub, Nat.reduceAdd, Nat.zero_add, fp_Regions_0_n, fp_Regions_1_end, fp_Regions_2_ends, fp_Regions_3_n, fp_Regions_3_end, fp_Regions_3_ends, fp_Regions_3_UinitU, fp_Regions_3_take, fp_Regions_3_mark, fp_Regions_3_back, fp_Regions_3_top, fp_Regions_3_marks, fp_Regions_3_twin, fp_Regions_3_UeqU, fp_Regions_3_UneU] | exact rfl)
  refine ⟨ixN_of h0 (by rw [List.length_map]; exact h1), ?_⟩
  have hx' : (es.map tI)[m.toNat]? = some (tI x) := by rw [List.getElem?_map, hx]; rfl
  refine ⟨hx', ?_⟩
  repeat (first | refine And.intro rfl ?_ | apply Exists.intro | refine And.intro (Nat.le_of_ble_eq_true rfl) ?_ | refine And.intro (by decide) ?_ | refine And.intro ⟨_, _, rfl, rfl⟩ ?_ | refine And.intro ⟨_, _, rfl, rfl, rfl⟩ ?_ | refine And.intro (Hz.copy_map _ _) ?_ | refine And.intro (Hz.all_cut (Hz.copy_map _ _)) ?_ | refine And.intro (Hz.pys_map _ _) ?_ | refine And.intro (Hz.real_map _ _) ?_ | refine And.intro Hz.insNo ?_ | refine And.intro (Hz.insOnly tx.i_Regions) ?_ | refine And.intro (Hz.shaped_pl (by ((repeat' (first | exact Hz.pl_int | exact Hz.pl_bool | exact Hz.pl_none | refine Hz.pl_list ?_ | refine Hz.pl_tuple ?_ | exact Hz.plA_nil | refine Hz.plA_cons ?_ ?_ | refine Hz.plA_map (fun _ => ?_) _)); done))) ?_ | refine And.intro (.own _) ?_ | refine And.intro Hz.kit_self ?_ | refine And.intro Hz.notFirst_self ?_ | refine And.intro (show CMul _ _ from .inl ⟨by decide, by decide⟩) ?_ | refine And.intro (show CMul _ _ from .inr ⟨by decide, by decide⟩) ?_ | refine And.intro (show CMod _ _ from (by decide : (0 : Int) < _)) ?_ | refine And.intro (show CDiv _ _ from ⟨by decide, by decide⟩) ?_ | refine And.intro (show CPow _ _ from ⟨by decide, by decide, by decide⟩) ?_ | refine Or.inl (Exists.intro _ (And.intro rfl ?_)) | refine Or.inr (Exists.intro _ (And.intro rfl ?_)) | refine (fun (_ : V) => ?_) | refine (fun (_ : True) => ?_) | simp only [give_dat, give_cst, give_well, pys_nil, pys_consE, py_dat, py_lstE, py_tupE, pys_mapI, pys_mapD, dropsT_nil, dropsT_cons, startT, drop_bor, drop_lz, drop_dat, drop_cst, drop_well, drop_lst, drop_tup, drop_dic, drop_ins, opn_bor, opn_lz, opn_dat, opn_cst, opn_well, opn_lst, opn_tup, opn_dic, opn_ins, cls_bor, cls_lz, cls_dat, cls_cst, cls_well, cls_lst, cls_tup, cls_dic, cls_ins, clsAll_nil, clsAll_some, clsAll_none, Hz.putAt, putc_lst, putc_tup, putc_ins, child_lst, child_tup, child_ins, get_nil, get_cons, put_nil, put_cons, putFT, mask, List.getElem?_cons_zero, List.getElem?_cons_succ, List.set_cons_zero, List.set_cons_succ, Option.join_some, Option.map_some, Option.map_none, Option.bind_some, Option.bind_none, ite_true, ite_false, if_true, if_false, eq_self, Int.reduceToNat, Int.toNat_zero, Int.toNat_one, Int.reduceToNat, List.replicate_zero, List.replicate_succ, List.length_cons, List.length_nil, List.map_cons, List.map_nil, List.cons_append, List.nil_append, Nat.reduceSub, Nat.reduceAdd, Nat.zero_add, fp_Regions_0_n, fp_Regions_1_end, fp_Regions_2_ends, fp_Regions_3_n, fp_Regions_3_end, fp_Regions_3_ends, fp_Regions_3_UinitU, fp_Regions_3_take, fp_Regions_3_mark, fp_Regions_3_back, fp_Regions_3_top, fp_Regions_3_marks, fp_Regions_3_twin, fp_Regions_3_UeqU, fp_Regions_3_UneU] | exact rfl)
  rw [cutT_pre h0 (by rw [List.length_map]; omega), ← List.map_take]
  exact hp
theorem ok_Regions_back {P : Program} {w : World} {K : PySem.W.Frag} {mg : Str → Option Value} {base : Heap} {a : Ad} (T : Tx K mg a) : FnG P w K mg base CX0 2 a.f_Regions_back a.d_Regions_back ["self", "mark"] (spT K wellO (W_Regions_back a)) :=
  fn_T [0] T.F_Regions_back sc_Regions_back (fun ts post ep h => len_Regions_back h) (fun cdv A outer s H E hr hg => ⟨_, w_Regions_back K a,
  (pss_cons (ps_expr (pg_call (ok_need_number T) (by exact hr.mono (by decide)) (by exact hg) (by rfl) (by exact T.g_need_number) (by exact T.F_need_number.kp) T.b_need_number_3 passG (pa_cons (pv 1) (pa_cons pe_int (pa_cons (pe_op op_sub (pe_callB call_len (by rfl) (by exact T.z_len) bt_len (pa_cons (pe_fld (pv 0) rfl) pa_nil)) pe_int) pa_nil)))))
  (pss_cons (ps_asg (pe_tup (pa_cons (pe_fld (pv 0) rfl) (pa_cons (pe_ix ix_seq (pe_fld (pv 0) rfl) (pv 1) (fun _ _ => rfl)) pa_nil))) (pg_tup rfl (pgs_cons (pg_name (i := 2) sc_Regions_back.nd rfl (Or.inl rfl)) (pgs_cons (pg_fldT (pv 0)) pgs_nil))))
  (pss_cons (ps_fld (pv 0) (pe_slice sl_list (pe_fld (pv 0) rfl) po_none (po_some (pv 1))) rfl)
  (pss_one (ps_ret (pe_op op_sub (pv 2) (pe_fld (pv 0) rfl))))))),
  (sv_seq (sv_drop (ev_call (Wf := W_need_number a) (n := 3) (m := 0) mk_pos (ea_cons ev_var (ea_cons ev_int (ea_cons (ev_sub (ev_call1 op_len (ev_fld T.c_Regions T.n_Regions_ends ev_var)) ev_int) ea_nil))) ea_nil))
  (sv_seq (sv_asg (ev_tupO (ea_cons (ev_fld T.c_Regions T.n_Regions_end ev_var) (ea_cons (ev_op2 op_ix (ev_fld T.c_Regions T.n_Regions_ends ev_var) ev_var) ea_nil))) (g_tup (g_cons (g_name (by decide)) (g_cons (g_fld T.c_Regions T.n_Regions_end ev_var) g_nil))))
  (sv_seq (sv_fld T.c_Regions T.n_Regions_ends (ev_sl (ev_fld T.c_Regions T.n_Regions_ends ev_var) eo_none (eo_some ev_var)) ev_var)
  (sv_ret (ev_sub ev_var (ev_fld T.c_Regions T.n_Regions_end ev_var)))))),
  law_Regions_back T⟩)

def W_Regions_top (a : Ad) : SpT := fun ts post _ => ∃ (n e : Int) (es : List Int), ts = [RgT a.C_Regions n e es] ∧ post (tI e) [some (RgT a.C_Regions n e es)]
theorem len_Regions_top {a : Ad} {ts : List T} {post : T → Rho → Prop} {ep : Addr → T → Rho → Prop} (h : W_Regions_top a ts post ep) : ts.length = 1 := by
  obtain ⟨n, e, es, rfl, _⟩ := h
  rfl

def w_Regions_top (K : PySem.W.Frag) (a : Ad) : WS := (sRt (wFld a.C_Regions "end" (wVar 0)))

theorem law_Regions_top {K : PySem.W.Frag} {mg : Str → Option Value} {a : Ad} (tx : Tx K mg a) : ∀ ts post ep, W_Regions_top a ts post ep → ts.length = 1 → w_Regions_top K a (outO [0] 1 post) (outX [0] 1 ep) (startT 1 ts) := by
  rintro ts post ep ⟨n, e, es, rfl, hp⟩ -
  repeat (first | refine And.intro rfl ?_ | apply Exists.intro | refine And.intro (Nat.le_of_ble_eq_true rfl) ?_ | refine And.intro (by decide) ?_ | refine And.intro ⟨_, _, rfl, rfl⟩ ?_ | refine And.intro ⟨_, _, rfl, rfl, rfl⟩ ?_ | refine And.intro (Hz.copy_map _ _) ?_ | refine And.intro (Hz.all_cut (Hz.copy_map _ _)) ?_ | refine And.intro (Hz.pys_map _ _) ?_ | refine And.intro (Hz.real_map _ _) ?_ | refine And.intro Hz.insNo ?_ | refine And.intro (Hz.insOnly tx.i_Regions) ?_ | refine And.intro (Hz.shaped_pl (by ((repeat' (first | exact Hz.pl_int | exact Hz.pl_bool | exact Hz.pl_none | refine Hz.pl_list ?_ | refine Hz.pl_tuple ?_ | exact Hz.plA_nil | refine Hz.plA_cons ?_ ?_ | refine Hz.plA_map (fun _ => ?_) _)); done))) ?_ | refine And.intro (.own _) ?_ | refine And.intro Hz.kit_self ?_ | refine And.intro Hz.notFirst_self ?_ | refine And.intro (show CMul _ _ from .inl ⟨by decide, by decide⟩) ?_ | refine And.intro (show CMul _ _ from .inr ⟨by decide, by decide⟩) ?_ | refine And.intro (show CMod _ _ from (by decide : (0 : Int) < _)) ?_ | refine And.intro (show CDiv _ _ from ⟨by decide, by decide⟩) ?_ | refine And.intro (show CPow _ _ from ⟨by decide, by decide, by decide⟩) ?_ | refine Or.inl (Exists.intro _ (And.intro rfl ?_)) | refine Or.inr (Exists.intro _ (And.intro rfl ?_)) | refine (fun (_ : V) => ?_) | refine (fun (_ : True) => ?_) | simp only [give_dat, give_cst, give_well, pys_nil, pys_consE, py_dat, py_lstE, py_tupE, pys_mapI, pys_mapD, dropsT_nil, dropsT_cons, startT, drop_bor, drop_lz, drop_dat, drop_cst, drop_well, drop_lst, drop_tup, drop_dic, drop_ins, opn_bor, opn_lz, opn_dat, opn_cst, opn_well, opn_lst, opn_tup, opn_dic, opn_ins, cls_bor, cls_lz, cls_dat, cls_cst, cls_well, cls_lst, cls_tup, cls_dic, cls_ins, clsAll_nil, clsAll_some, clsAll_none, Hz.putAt, putc_lst, putc_tup, putc_ins, child_lst, child_tup, child_ins, get_nil, get_cons, put_nil, put_cons, putFT, mask, List.getElem?_cons_zero, List.getElem?_cons_succ, List.set_cons_zero, List.set_cons_succ, Option.join_some, Option.map_some, Option.map_none, Option.bind_some, Option.bind_none, ite_true, ite_false, if_true, if_false, eq_self, Int.reduceToNat, Int.toNat_zero, Int.toNat_one, Int.reduceToNat, List.replicate_zero, List.replicate_succ, List.length_cons, List.length_nil, List.map_cons, List.map_nil, List.cons_append, List.nil_append, Nat.reduceSub, Nat.reduceAdd, Nat.zero_add, fp_Regions_0_n, fp_Regions_1_end, fp_Regions_2_ends, fp_Regions_3_n, fp_Regions_3_end, fp_Regions_3_ends, fp_Regions_3_UinitU, fp_Regions_3_take, fp_Regions_3_mark, fp_Regions_3_back, fp_Regions_3_top, fp_Regions_3_marks, fp_Regions_3_twin, fp_Regions_3_UeqU, fp_Regions_3_UneU] | exact rfl)
  exact hp
theorem ok_Regions_top {P : Program} {w : World} {K : PySem.W.Frag} {mg : Str → Option Value} {base : Heap} {a : Ad} (T : Tx K mg a) : FnG P w K mg base CX0 1 a.f_Regions_top a.d_Regions_top ["self"] (spT K wellO (W_Regions_top a)) :=
  fn_T [0] T.F_Regions_top sc_Regions_top (fun ts post ep h => len_Regions_top h) (fun cdv A outer s H E hr hg => ⟨_, w_Regions_top K a,
  (pss_one (ps_ret (pe_fld (pv 0) rfl))),
  (sv_ret (ev_fld T.c_Regions T.n_Regions_end ev_var)),
  law_Regions_top T⟩)

def W_Regions_marks (a : Ad) : SpT := fun ts post _ => ∃ (n e : Int) (es : List Int), ts = [RgT a.C_Regions n e es] ∧ post (.dat (.tuple (es.map .int))) [some (RgT a.C_Regions n e es)]
theorem len_Regions_marks {a : Ad} {ts : List T} {post : T → Rho → Prop} {ep : Addr → T → Rho → Prop} (h : W_Regions_marks a ts post ep) : ts.length = 1 := by
  obtain ⟨n, e, es, rfl, _⟩ := h
  rfl

def w_Regions_marks (K : PySem.W.Frag) (a : Ad) : WS := (sRt (w1 sTuple (wFld a.C_Regions "ends" (wVar 0))))

theorem law_Regions_marks {K : PySem.W.Frag} {mg : Str → Option Value} {a : Ad} (tx : Tx K mg a) : ∀ ts post ep, W_Regions_marks a ts post ep → ts.length = 1 → w_Regions_marks K a (outO [0] 1 post) (outX [0] 1 ep) (startT 1 ts) := by
  rintro ts post ep ⟨n, e, es, rfl, hp⟩ -
  repeat (first | refine And.intro rfl ?_ | apply Exists.intro | refine And.intro (Nat.le_of_ble_eq_true rfl) ?_ | refine And.intro (by decide) ?_ | refine And.intro ⟨_, _, rfl, rfl⟩ ?_ | refine And.intro ⟨_, _, rfl, rfl, rfl⟩ ?_ | refine And.intro (Hz.copy_map _ _) ?_ | refine And.intro (Hz.all_cut (Hz.copy_map _ _)) ?_ | refine And.intro (Hz.pys_map _ _) ?_ | refine And.intro (Hz.real_map _ _) ?_ | refine And.intro Hz.insNo ?_ | refine And.intro (Hz.insOnly tx.i_Regions) ?_ | refine And.intro (Hz.shaped_pl (by ((repeat' (first | exact Hz.pl_int | exact Hz.pl_bool | exact Hz.pl_none | refine Hz.pl_list ?_ | refine Hz.pl_tuple ?_ | exact Hz.plA_nil | refine Hz.plA_cons ?_ ?_ | refine Hz.plA_map (fun _ => ?_) _)); done))) ?_ | refine And.intro (.own _) ?_ | refine And.intro Hz.kit_self ?_ | refine And.intro Hz.notFirst_self ?_ | refine And.intro (show CMul _ _ from .inl ⟨by decide, by decide⟩) ?_ | refine And.intro (show CMul _ _ from .inr ⟨by decide, by decide⟩) ?_ | refine And.intro (show CMod _ _ from (by decide : (0 : Int) < _)) ?_ | refine And.intro (show CDiv _ _ from ⟨by decide, by decide⟩) ?_ | refine And.intro (show CPow _ _ from ⟨by decide, by decide, by decide⟩) ?_ | refine Or.inl (Exists.intro _ (And.intro rfl ?_)) | refine Or.inr (Exists.intro _ (And.intro rfl ?_)) | refine (fun (_ : V) => ?_) | refine (fun (_ : True) => ?_) | simp only [give_dat, give_cst, give_well, pys_nil, pys_consE, py_dat, py_lstE, py_tupE, pys_mapI, pys_mapD, dropsT_nil, dropsT_cons, startT, drop_bor, drop_lz, drop_dat, drop_cst, drop_well, drop_lst, drop_tup, drop_dic, drop_ins, opn_bor, opn_lz, opn_dat, opn_cst, opn_well, opn_lst, opn_tup, opn_dic, opn_ins, cls_bor, cls_lz, cls_dat, cls_cst, cls_well, cls_lst, cls_tup, cls_dic, cls_ins, clsAll_nil, clsAll_some, clsAll_none, Hz.putAt, putc_lst, putc_tup, putc_ins, child_lst, child_tup, child_ins, get_nil, get_cons, put_nil, put_cons, putFT, mask, List.getElem?_cons_zero, List.getElem?_cons_succ, List.set_cons_zero, List.set_cons_succ, Option.join_some, Option.map_some, Option.map_none, Option.bind_some, Option.bind_none, ite_true, ite_false, if_true, if_false, eq_self, Int.reduceToNat, Int.toNat_zero, Int.toNat_one, Int.reduceToNat, List.replicate_zero, List.replicate_succ, List.length_cons, List.length_nil, List.map_cons, List.map_nil, List.cons_append, List.nil_append, Nat.reduceSub, Nat.reduceAdd, Nat.zero_add, fp_Regions_0_n, fp_Regions_1_end, fp_Regions_2_ends, fp_Regions_3_n, fp_Regions_3_end, fp_Regions_3_ends, fp_Regions_3_UinitU, fp_Regions_3_take, fp_Regions_3_mark, fp_Regions_3_back, fp_Regions_3_top, fp_Regions_3_marks, fp_Regions_3_twin, fp_Regions_3_UeqU, fp_Regions_3_UneU] | exact rfl)
  exact hp
theorem ok_Regions_marks {P : Program} {w : World} {K : PySem.W.Frag} {mg : Str → Option Value} {base : Heap} {a : Ad} (T : Tx K mg a) : FnG P w K mg base CX0 1 a.f_Regions_marks a.d_Regions_marks ["self"] (spT K wellO (W_Regions_marks a)) :=
  fn_T [0] T.F_Regions_marks sc_Regions_marks (fun ts post ep h => len_Regions_marks h) (fun cdv A outer s H E hr hg => ⟨_, w_Regions_marks K a,
  (pss_one (ps_ret (pe_callTy call_tuple_of (by rfl) (by exact T.z_tuple) bt_tuple (pa_cons (pe_fld (pv 0) rfl) pa_nil)))),
  (sv_ret (ev_call1 op_tuple (ev_fld T.c_Regions T.n_Regions_ends ev_var))),
  law_Regions_marks T⟩)

def W_Regions_twin (a : Ad) : SpT := fun ts post _ => ∃ (n e : Int) (es : List Int), ts = [RgT a.C_Regions n e es] ∧ 1 ≤ n ∧ n ≤ 400 ∧ post (RgT a.C_Regions n e es) [some (RgT a.C_Regions n e es)]
theorem len_Regions_twin {a : Ad} {ts : List T} {post : T → Rho → Prop} {ep : Addr → T → Rho → Prop} (h : W_Regions_twin a ts post ep) : ts.length = 1 := by
  obtain ⟨n, e, es, rfl, _⟩ := h
  rfl
/-- return other .. -/
def t_Regions_twin_47 (K : PySem.W.Frag) (a : Ad) : WS := (sRt (wVar 1))
/-- other.end, other.ends = (self.end, list(self.ends)) .. -/
def t_Regions_twin_46 (K : PySem.W.Frag) (a : Ad) : WS := (sSq (sAs (wTupO (aCons (wFld a.C_Regions "end" (wVar 0)) (aCons (w1 sList (wFld a.C_Regions "ends" (wVar 0))) aNil))) (gTp 2 (gCn (gFd a.C_Regions "end" (wVar 1)) (gCn (gFd a.C_Regions "ends" (wVar 1)) gNl)))) (t_Regions_twin_47 K a))
def w_Regions_twin (K : PySem.W.Frag) (a : Ad) : WS := (sSq (sAs (wMake a.C_Regions 1 0 (fun us _ => us) (W_RegionsU_initU a) (aCons (wFld a.C_Regions "n" (wVar 0)) aNil) aNil) (gN 1)) (t_Regions_twin_46 K a))

theorem law_Regions_twin {K : PySem.W.Frag} {mg : Str → Option Value} {a : Ad} (tx : Tx K mg a) : ∀ ts post ep, W_Regions_twin a ts post ep → ts.length = 1 → w_Regions_twin K a (outO [0] 1 post) (outX [0] 1 ep) (startT 2 ts) := by
  rintro ts post ep ⟨n, e, es, rfl, h1, h2, hp⟩ -
  repeat (first | refine And.intro rfl ?_ | apply Exists.intro | refine And.intro (Nat.le_of_ble_eq_true rfl) ?_ | refine And.intro (by decide) ?_ | refine And.intro ⟨_, _, rfl, rfl⟩ ?_ | refine And.intro ⟨_, _, rfl, rfl, rfl⟩ ?_ | refine And.intro (Hz.copy_map _ _) ?_ | refine And.intro (Hz.all_cut (Hz.copy_map _ _)) ?_ | refine And.intro (Hz.pys_map _ _) ?_ | refine And.intro (Hz.real_map _ _) ?_ | refine And.intro Hz.insNo ?_ | refine And.intro (Hz.insOnly tx.i_Regions) ?_ | refine And.intro (Hz.shaped_pl (by ((repeat' (first | exact Hz.pl_int | exact Hz.pl_bool | exact Hz.pl_none | refine Hz.pl_list ?_ | refine Hz.pl_tuple ?_ | exact Hz.plA_nil | refine Hz.plA_cons ?_ ?_ | refine Hz.plA_map (fun _ => ?_) _)); done))) ?_ | refine And.intro (.own _) ?_ | refine And.intro Hz.kit_self ?_ | refine And.intro Hz.notFirst_self ?_ | refine And.intro (show CMul _ _ from .inl ⟨by decide, by decide⟩) ?_ | refine And.intro (show CMul _ _ from .inr ⟨by decide, by decide⟩) ?_ | refine And.intro (show CMod _ _ from (by decide : (0 : Int) < _)) ?_ | refine And.intro (show CDiv _ _ from ⟨by decide, by decide⟩) ?_ | refine And.intro (show CPow _ _ from ⟨by decide, by decide, by decide⟩) ?_ | refine Or.inl (Exists.intro _ (And.intro rfl ?_)) | refine Or.inr (Exists.intro _ (And.intro rfl ?_)) | refine (fun (_ : V) => ?_) | refine (fun (_ : True) => ?_) | simp only [give_dat, give_cst, give_well, pys_nil, pys_consE, py_dat, py_lstE, py_tupE, pys_mapI, pys_mapD, dropsT_nil, dropsT_cons, startT, drop_bor, drop_lz, drop_dat, drop_cst, drop_well, drop_lst, drop_tup, drop_dic, drop_ins, opn_bor, opn_lz, opn_dat, opn_cst, opn_well, opn_lst, opn_tup, opn_dic, opn_ins, cls_bor, cls_lz, cls_dat, cls_cst, cls_well, cls_lst, cls_tup, cls_dic, cls_ins, clsAll_nil, clsAll_some, clsAll_none, Hz.putAt, putc_lst, putc_tup, putc_ins, child_lst, child_tup, child_ins, get_nil, get_cons, put_nil, put_cons, putFT, mask, List.getElem?_cons_zero, List.getElem?_cons_succ, List.set_cons_zero, List.set_cons_succ, Option.join_some, Option.map_some, Option.map_none, Option.bind_some, Option.bind_none, ite_true, ite_false, if_true, if_false, eq_self, Int.reduceToNat, Int.toNat_zero, Int.toNat_one, Int.reduceToNat, List.replicate_zero, List.replicate_succ, List.length_cons, List.length_nil, List.map_cons, List.map_nil, List.cons_append, List.nil_append, Nat.reduceSub, Nat.reduceAdd, Nat.zero_add, fp_Regions_0_n, fp_Regions_1_end, fp_Regions_2_ends, fp_Regions_3_n, fp_Regions_3_end, fp_Regions_3_ends, fp_Regions_3_UinitU, fp_Regions_3_take, fp_Regions_3_mark, fp_Regions_3_back, fp_Regions_3_top, fp_Regions_3_marks, fp_Regions_3_twin, fp_Regions_3_UeqU, fp_Regions_3_UneU] | exact rfl)
  refine ⟨h1, h2, fun _ => ?_⟩
  repeat (first | refine And.intro rfl ?_ | apply Exists.intro | refine And.intro (Nat.le_of_ble_eq_true rfl) ?_ | refine And.intro (by decide) ?_ | refine And.intro ⟨_, _, rfl, rfl⟩ ?_ | refine And.intro ⟨_, _, rfl, rfl, rfl⟩ ?_ | refine And.intro (Hz.copy_map _ _) ?_ | refine And.intro (Hz.all_cut (Hz.copy_map _ _)) ?_ | refine And.intro (Hz.pys_map _ _) ?_ | refine And.intro (Hz.real_map _ _) ?_ | refine And.intro Hz.insNo ?_ | refine And.intro (Hz.insOnly tx.i_Regions) ?_ | refine And.intro (Hz.shaped_pl (by ((repeat' (first | exact Hz.pl_int | exact Hz.pl_bool | exact Hz.pl_none | refine Hz.pl_list ?_ | refine Hz.pl_tuple ?_ | exact Hz.plA_nil | refine Hz.plA_cons ?_ ?_ | refine Hz.plA_map (fun _ => ?_) _)); done))) ?_ | refine And.intro (.own _) ?_ | refine And.intro Hz.kit_self ?_ | refine And.intro Hz.notFirst_self ?_ | refine And.intro (show CMul _ _ from .inl ⟨by decide, by decide⟩) ?_ | refine And.intro (show CMul _ _ from .inr ⟨by decide, by decide⟩) ?_ | refine And.intro (show CMod _ _ from (by decide : (0 : Int) < _)) ?_ | refine And.intro (show CDiv _ _ from ⟨by decide, by decide⟩) ?_ | refine And.intro (show CPow _ _ from ⟨by decide, by decide, by decide⟩) ?_ | refine Or.inl (Exists.intro _ (And.intro rfl ?_)) | refine Or.inr (Exists.intro _ (And.intro rfl ?_)) | refine (fun (_ : V) => ?_) | refine (fun (_ : True) => ?_) | simp only [give_dat, give_cst, give_well, pys_nil, pys_consE, py_dat, py_lstE, py_tupE, pys_mapI, pys_mapD, dropsT_nil, dropsT_cons, startT, drop_bor, drop_lz, drop_dat, drop_cst, drop_well, drop_lst, drop_tup, drop_dic, drop_ins, opn_bor, opn_lz, opn_dat, opn_cst, opn_well, opn_lst, opn_tup, opn_dic, opn_ins, cls_bor, cls_lz, cls_dat, cls_cst, cls_well, cls_lst, cls_tup, cls_dic, cls_ins, clsAll_nil, clsAll_some, clsAll_none, Hz.putAt, putc_lst, putc_tup, putc_ins, child_lst, child_tup, child_ins, get_nil, get_cons, put_nil, put_cons, putFT, mask, List.getElem?_cons_zero, List.getElem?_cons_succ, List.set_cons_zero, List.set_cons_succ, Option.join_some, Option.map_some, Option.map_none, Option.bind_some, Option.bind_none, ite_true, ite_false, if_true, if_false, eq_self, Int.reduceToNat, Int.toNat_zero, Int.toNat_one, Int.reduceToNat, List.replicate_zero, List.replicate_succ, List.length_cons, List.length_nil, List.map_cons, List.map_nil, List.cons_append, List.nil_append, Nat.reduceSub, Nat.reduceAdd, Nat.zero_add, fp_Regions_0_n, fp_Regions_1_end, fp_Regions_2_ends, fp_Regions_3_n, fp_Regions_3_end, fp_Regions_3_ends, fp_Regions_3_UinitU, fp_Regions_3_take, fp_Regions_3_mark, fp_Regions_3_back, fp_Regions_3_top, fp_Regions_3_marks, fp_Regions_3_twin, fp_Regions_3_UeqU, fp_Regions_3_UneU] | exact rfl)
  exact hp
theorem ok_Regions_twin {P : Program} {w : World} {K : PySem.W.Frag} {mg : Str → Option Value} {base : Heap} {a : Ad} (T : Tx K mg a) : FnG P w K mg base CX0 4 a.f_Regions_twin a.d_Regions_twin ["self"] (spT K wellO (W_Regions_twin a)) :=
  fn_T [0] T.F_Regions_twin sc_Regions_twin (fun ts post ep h => len_Regions_twin h) (fun cdv A outer s H E hr hg => ⟨_, w_Regions_twin K a,
  (pss_cons (ps_set (i := 1) sc_Regions_twin.nd rfl (Or.inl rfl) (pg_make T.K_Regions (ok_RegionsU_initU T) (by exact hr.mono (by decide)) (by exact hg) (by rfl) (by exact T.g_Regions) T.b_RegionsU_initU_1 passG (pa_cons (pe_fld (pv 0) rfl) pa_nil)))
  (pss_cons (ps_asg (pe_tup (pa_cons (pe_fld (pv 0) rfl) (pa_cons (pe_callTy call_list_of (by rfl) (by exact T.z_list) bt_list (pa_cons (pe_fld (pv 0) rfl) pa_nil)) pa_nil))) (pg_tup rfl (pgs_cons (pg_fldT (pv 1)) (pgs_cons (pg_fldT (pv 1)) pgs_nil))))
  (pss_one (ps_ret (pv 1))))),
  (sv_seq (sv_asg (ev_make (Wf := W_RegionsU_initU a) (n := 1) (m := 0) mk_pos (ea_cons (ev_fld T.c_Regions T.n_Regions_n ev_var) ea_nil) ea_nil) (g_name (by decide)))
  (sv_seq (sv_asg (ev_tupO (ea_cons (ev_fld T.c_Regions T.n_Regions_end ev_var) (ea_cons (ev_call1 op_list (ev_fld T.c_Regions T.n_Regions_ends ev_var)) ea_nil))) (g_tup (g_cons (g_fld T.c_Regions T.n_Regions_end ev_var) (g_cons (g_fld T.c_Regions T.n_Regions_ends ev_var) g_nil))))
  (sv_ret ev_var))),
  law_Regions_twin T⟩)

def W_RegionsU_eqU (a : Ad) : SpT := fun ts post _ => (∃ (n e n' e' : Int) (es es' : List Int), ts = [RgT a.C_Regions n e es, RgT a.C_Regions n' e' es'] ∧ post (tBo (decide (n = n' ∧ e = e' ∧ es = es'))) [some (RgT a.C_Regions n e es), some (RgT a.C_Regions n' e' es')]) ∨
  ∃ (n e : Int) (es : List Int) (o : T) , ts = [RgT a.C_Regions n e es, o] ∧ (o = tN ∨ ∃ xs, o = .lst xs) ∧ post (tBo false) [some (RgT a.C_Regions n e es), some o]
theorem len_RegionsU_eqU {a : Ad} {ts : List T} {post : T → Rho → Prop} {ep : Addr → T → Rho → Prop} (h : W_RegionsU_eqU a ts post ep) : ts.length = 2 := by
  rcases h with ⟨n, e, n', e', es, es', rfl, _⟩ | ⟨n, e, es, o, rfl, _⟩ <;> rfl

def w_RegionsU_eqU (K : PySem.W.Frag) (a : Ad) : WS := (sRt (wAnd (w2 (sIsi K) (wVar 1) (wCst (.ref a.C_Regions))) (wEqTup false (aCons (wFld a.C_Regions "n" (wVar 0)) (aCons (wFld a.C_Regions "end" (wVar 0)) (aCons (wFld a.C_Regions "ends" (wVar 0)) aNil))) (aCons (wFld a.C_Regions "n" (wVar 1)) (aCons (wFld a.C_Regions "end" (wVar 1)) (aCons (wFld a.C_Regions "ends" (wVar 1)) aNil))))))

theorem law_RegionsU_eqU {K : PySem.W.Frag} {mg : Str → Option Value} {a : Ad} (tx : Tx K mg a) : ∀ ts post ep, W_RegionsU_eqU a ts post ep → ts.length = 2 → w_RegionsU_eqU K a (outO [0, 1] 2 post) (outX [0, 1] 2 ep) (startT 2 ts) := by
  rintro ts post ep (⟨n, e, n', e', es, es', rfl, hp⟩ | ⟨n, e, es, o, rfl, ho, hp⟩) -
  · repeat (first | refine And.intro rfl ?_ | apply Exists.intro | refine And.intro (Nat.le_of_ble_eq_true rfl) ?_ | refine And.intro (by decide) ?_ | refine And.intro ⟨_, _, rfl, rfl⟩ ?_ | refine And.intro ⟨_, _, rfl, rfl, rfl⟩ ?_ | refine And.intro (Hz.copy_map _ _) ?_ | refine And.intro (Hz.all_cut (Hz.copy_map _ _)) ?_ | refine And.intro (Hz.pys_map _ _) ?_ | refine And.intro (Hz.real_map _ _) ?_ | refine And.intro Hz.insNo ?_ | refine And.intro (Hz.insOnly tx.i_Regions) ?_ | refine And.intro (Hz.shaped_pl (by ((repeat' (first | exact Hz.pl_int | exact Hz.pl_bool | exact Hz.pl_none | refine Hz.pl_list ?_ | refine Hz.pl_tuple ?_ | exact Hz.plA_nil | refine Hz.plA_cons ?_ ?_ | refine Hz.plA_map (fun _ => ?_) _)); done))) ?_ | refine And.intro (.own _) ?_ | refine And.intro Hz.kit_self ?_ | refine And.intro Hz.notFirst_self ?_ | refine And.intro (show CMul _ _ from .inl ⟨by decide, by decide⟩) ?_ | refine And.intro (show CMul _ _ from .inr ⟨by decide, by decide⟩) ?_ | refine And.intro (show CMod _ _ from (by decide : (0 : Int) < _)) ?_ | refine And.intro (show CDiv _ _ from ⟨by decide, by decide⟩) ?_ | refine And.intro (show CPow _ _ from ⟨by decide, by decide, by decide⟩) ?_ | refine Or.inl (Exists.intro _ (And.intro rfl ?_)) | refine Or.inr (Exists.intro _ (And.intro rfl ?_)) | refine (fun (_ : V) => ?_) | refine (fun (_ : True) => ?_) | simp only [give_dat, give_cst, give_well, pys_nil, pys_consE, py_dat, py_lstE, py_tupE, pys_mapI, pys_mapD, dropsT_nil, dropsT_cons, startT, drop_bor, drop_lz, drop_dat, drop_cst, drop_well, drop_lst, drop_tup, drop_dic, drop_ins, opn_bor, opn_lz, opn_dat, opn_cst, opn_well, opn_lst, opn_tup, opn_dic, opn_ins, cls_bor, cls_lz, cls_dat, cls_cst, cls_well, cls_lst, cls_tup, cls_dic, cls_ins, clsAll_nil, clsAll_some, clsAll_none, Hz.putAt, putc_lst, putc_tup, putc_ins, child_lst, child_tup, child_ins, get_nil, get_cons, put_nil, put_cons, putFT, mask, List.getElem?_cons_zero, List.getElem?_cons_succ, List.set_cons_zero, List.set_cons_succ, Option.join_some, Option.map_some, Option.map_none, Option.bind_some, Option.bind_none, ite_true, ite_false, if_true, if_false, eq_self, Int.reduceToNat, Int.toNat_zero, Int.toNat_one, Int.reduceToNat, List.replicate_zero, List.replicate_succ, List.length_cons, List.length_nil, List.map_cons, List.map_nil, List.cons_append, List.nil_append, Nat.reduceSub, Nat.reduceAdd, Nat.zero_add, fp_Regions_0_n, fp_Regions_1_end, fp_Regions_2_ends, fp_Regions_3_n, fp_Regions_3_end, fp_Regions_3_ends, fp_Regions_3_UinitU, fp_Regions_3_take, fp_Regions_3_mark, fp_Regions_3_back, fp_Regions_3_top, fp_Regions_3_marks, fp_Regions_3_twin, fp_Regions_3_UeqU, fp_Regions_3_UneU] | exact rfl)
    have ed : PyData.eqv (PyData.tuple [.int n, .int e, .list (es.map .int)]) (PyData.tuple [.int n', .int e', .list (es'.map .int)]) = decide (n = n' ∧ e = e' ∧ es = es') := by
      rw [eqv_tuple, eqvAll_cons, eqvAll_cons, eqvAll_cons, eqvAll_nil, eqv_int, eqv_int, eqv_list, eqv_ints]
      simp
    show post (tBo (PyData.eqv (PyData.tuple [.int n, .int e, .list (es.map .int)]) (PyData.tuple [.int n', .int e', .list (es'.map .int)]))) [some (RgT a.C_Regions n e es), some (RgT a.C_Regions n' e' es')]
    rw [ed]
    exact hp
  · rcases ho with rfl | ⟨xs, rfl⟩
    · repeat (first | refine And.intro rfl ?_ | apply Exists.intro | refine And.intro (Nat.le_of_ble_eq_true rfl) ?_ | refine And.intro (by decide) ?_ | refine And.intro ⟨_, _, rfl, rfl⟩ ?_ | refine And.intro ⟨_, _, rfl, rfl, rfl⟩ ?_ | refine And.intro (Hz.copy_map _ _) ?_ | refine And.intro (Hz.all_cut (Hz.copy_map _ _)) ?_ | refine And.intro (Hz.pys_map _ _) ?_ | refine And.intro (Hz.real_map _ _) ?_ | refine And.intro Hz.insNo ?_ | refine And.intro (Hz.insOnly tx.i_Regions) ?_ | refine And.intro (Hz.shaped_pl (by ((repeat' (first | exact Hz.pl_int | exact Hz.pl_bool | exact Hz.pl_none | refine Hz.pl_list ?_ | refine Hz.pl_tuple ?_ | exact Hz.plA_nil | refine Hz.plA_cons ?_ ?_ | refine Hz.plA_map (fun _ => ?_) _)); done))) ?_ | refine And.intro (.own _) ?_ | refine And.intro Hz.kit_self ?_ | refine And.intro Hz.notFirst_self ?_ | refine And.intro (show CMul _ _ from .inl ⟨by decide, by decide⟩) ?_ | refine And.intro (show CMul _ _ from .inr ⟨by decide, by decide⟩) ?_ | refine And.intro (show CMod _ _ from (by decide : (0 : Int) < _)) ?_ | refine And.intro (show CDiv _ _ from ⟨by decide, by decide⟩) ?_ | refine And.intro (show CPow _ _ from ⟨by decide, by decide, by decide⟩) ?_ | refine Or.inl (Exists.intro _ (And.intro rfl ?_)) | refine Or.inr (Exists.intro _ (And.intro rfl ?_)) | refine (fun (_ : V) => ?_) | refine (fun (_ : True) => ?_) | simp only [give_dat, give_cst, give_well, pys_nil, pys_consE, py_dat, py_lstE, py_tupE, pys_mapI, pys_mapD, dropsT_nil, dropsT_cons, startT, drop_bor, drop_lz, drop_dat, drop_cst, drop_well, drop_lst, drop_tup, drop_dic, drop_ins, opn_bor, opn_lz, opn_dat, opn_cst, opn_well, opn_lst, opn_tup, opn_dic, opn_ins, cls_bor, cls_lz, cls_dat, cls_cst, cls_well, cls_lst, cls_tup, cls_dic, cls_ins, clsAll_nil, clsAll_some, clsAll_none, Hz.putAt, putc_lst, putc_tup, putc_ins, child_lst, child_tup, child_ins, get_nil, get_cons, put_nil, put_cons, putFT, mask, List.getElem?_cons_zero, List.getElem?_cons_succ, List.set_cons_zero, List.set_cons_succ, Option.join_some, Option.map_some, Option.map_none, Option.bind_some, Option.bind_none, ite_true, ite_false, if_true, if_false, eq_self, Int.reduceToNat, Int.toNat_zero, Int.toNat_one, Int.reduceToNat, List.replicate_zero, List.replicate_succ, List.length_cons, List.length_nil, List.map_cons, List.map_nil, List.cons_append, List.nil_append, Nat.reduceSub, Nat.reduceAdd, Nat.zero_add, fp_Regions_0_n, fp_Regions_1_end, fp_Regions_2_ends, fp_Regions_3_n, fp_Regions_3_end, fp_Regions_3_ends, fp_Regions_3_UinitU, fp_Regions_3_take, fp_Regions_3_mark, fp_Regions_3_back, fp_Regions_3_top, fp_Regions_3_marks, fp_Regions_3_twin, fp_Regions_3_UeqU, fp_Regions_3_UneU] | exact rfl)
      refine ⟨tx.q_none, ?_⟩
      repeat (first | refine And.intro rfl ?_ | apply Exists.intro | refine And.intro (Nat.le_of_ble_eq_true rfl) ?_ | refine And.intro (by decide) ?_ | refine And.intro ⟨_, _, rfl, rfl⟩ ?_ | refine And.intro ⟨_, _, rfl, rfl, rfl⟩ ?_ | refine And.intro (Hz.copy_map _ _) ?_ | refine And.intro (Hz.all_cut (Hz.copy_map _ _)) ?_ | refine And.intro (Hz.pys_map _ _) ?_ | refine And.intro (Hz.real_map _ _) ?_ | refine And.intro Hz.insNo ?_ | refine And.intro (Hz.insOnly tx.i_Regions) ?_ | refine And.intro (Hz.shaped_pl (by ((repeat' (first | exact Hz.pl_int | exact Hz.pl_bool | exact Hz.pl_none | refine Hz.pl_list ?_ | refine Hz.pl_tuple ?_ | exact Hz.plA_nil | refine Hz.plA_cons ?_ ?_ | refine Hz.plA_map (fun _ => ?_) _)); done))) ?_ | refine And.intro (.own _) ?_ | refine And.intro Hz.kit_self ?_ | refine And.intro Hz.notFirst_self ?_ | refine And.intro (show CMul _ _ from .inl ⟨by decide, by decide⟩) ?_ | refine And.intro (show CMul _ _ from .inr ⟨by decide, by decide⟩) ?_ | refine And.intro (show CMod _ _ from (by decide : (0 : Int) < _)) ?_ | refine And.intro (show CDiv _ _ from ⟨by decide, by decide⟩) ?_ | refine And.intro (show CPow _ _ from ⟨by decide, by decide, by decide⟩) ?_ | refine Or.inl (Exists.intro _ (And.intro rfl ?_)) | refine Or.inr (Exists.intro _ (And.intro rfl ?_)) | refine (fun (_ : V) => ?_) | refine (fun (_ : True) => ?_) | simp only [give_dat, give_cst, give_well, pys_nil, pys_consE, py_dat, py_lstE, py_tupE, pys_mapI, pys_mapD, dropsT_nil, dropsT_cons, startT, drop_bor, drop_lz, drop_dat, drop_cst, drop_well, drop_lst, drop_tup, drop_dic, drop_ins, opn_bor, opn_lz, opn_dat, opn_cst, opn_well, opn_lst, opn_tup, opn_dic, opn_ins, cls_bor, cls_lz, cls_dat, cls_cst, cls_well, cls_lst, cls_tup, cls_dic, cls_ins, clsAll_nil, clsAll_some, clsAll_none, Hz.putAt, putc_lst, putc_tup, putc_ins, child_lst, child_tup, child_ins, get_nil, get_cons, put_nil, put_cons, putFT, mask, List.getElem?_cons_zero, List.getElem?_cons_succ, List.set_cons_zero, List.set_cons_succ, Option.join_some, Option.map_some, Option.map_none, Option.bind_some, Option.bind_none, ite_true, ite_false, if_true, if_false, eq_self, Int.reduceToNat, Int.toNat_zero, Int.toNat_one, Int.reduceToNat, List.replicate_zero, List.replicate_succ, List.length_cons, List.length_nil, List.map_cons, List.map_nil, List.cons_append, List.nil_append, Nat.reduceSub, Nat.reduceAdd, Nat.zero_add, fp_Regions_0_n, fp_Regions_1_end, fp_Regions_2_ends, fp_Regions_3_n, fp_Regions_3_end, fp_Regions_3_ends, fp_Regions_3_UinitU, fp_Regions_3_take, fp_Regions_3_mark, fp_Regions_3_back, fp_Regions_3_top, fp_Regions_3_marks, fp_Regions_3_twin, fp_Regions_3_UeqU, fp_Regions_3_UneU] | exact rfl)
      exact hp
    · repeat (first | refine And.intro rfl ?_ | apply Exists.intro | refine And.intro (Nat.le_of_ble_eq_true rfl) ?_ | refine And.intro (by decide) ?_ | refine And.intro ⟨_, _, rfl, rfl⟩ ?_ | refine And.intro ⟨_, _, rfl, rfl, rfl⟩ ?_ | refine And.intro (Hz.copy_map _ _) ?_ | refine And.intro (Hz.all_cut (Hz.copy_map _ _)) ?_ | refine And.intro (Hz.pys_map _ _) ?_ | refine And.intro (Hz.real_map _ _) ?_ | refine And.intro Hz.insNo ?_ | refine And.intro (Hz.insOnly tx.i_Regions) ?_ | refine And.intro (Hz.shaped_pl (by ((repeat' (first | exact Hz.pl_int | exact Hz.pl_bool | exact Hz.pl_none | refine Hz.pl_list ?_ | refine Hz.pl_tuple ?_ | exact Hz.plA_nil | refine Hz.plA_cons ?_ ?_ | refine Hz.plA_map (fun _ => ?_) _)); done))) ?_ | refine And.intro (.own _) ?_ | refine And.intro Hz.kit_self ?_ | refine And.intro Hz.notFirst_self ?_ | refine And.intro (show CMul _ _ from .inl ⟨by decide, by decide⟩) ?_ | refine And.intro (show CMul _ _ from .inr ⟨by decide, by decide⟩) ?_ | refine And.intro (show CMod _ _ from (by decide : (0 : Int) < _)) ?_ | refine And.intro (show CDiv _ _ from ⟨by decide, by decide⟩) ?_ | refine And.intro (show CPow _ _ from ⟨by decide, by decide, by decide⟩) ?_ | refine Or.inl (Exists.intro _ (And.intro rfl ?_)) | refine Or.inr (Exists.intro _ (And.intro rfl ?_)) | refine (fun (_ : V) => ?_) | refine (fun (_ : True) => ?_) | simp only [give_dat, give_cst, give_well, pys_nil, pys_consE, py_dat, py_lstE, py_tupE, pys_mapI, pys_mapD, dropsT_nil, dropsT_cons, startT, drop_bor, drop_lz, drop_dat, drop_cst, drop_well, drop_lst, drop_tup, drop_dic, drop_ins, opn_bor, opn_lz, opn_dat, opn_cst, opn_well, opn_lst, opn_tup, opn_dic, opn_ins, cls_bor, cls_lz, cls_dat, cls_cst, cls_well, cls_lst, cls_tup, cls_dic, cls_ins, clsAll_nil, clsAll_some, clsAll_none, Hz.putAt, putc_lst, putc_tup, putc_ins, child_lst, child_tup, child_ins, get_nil, get_cons, put_nil, put_cons, putFT, mask, List.getElem?_cons_zero, List.getElem?_cons_succ, List.set_cons_zero, List.set_cons_succ, Option.join_some, Option.map_some, Option.map_none, Option.bind_some, Option.bind_none, ite_true, ite_false, if_true, if_false, eq_self, Int.reduceToNat, Int.toNat_zero, Int.toNat_one, Int.reduceToNat, List.replicate_zero, List.replicate_succ, List.length_cons, List.length_nil, List.map_cons, List.map_nil, List.cons_append, List.nil_append, Nat.reduceSub, Nat.reduceAdd, Nat.zero_add, fp_Regions_0_n, fp_Regions_1_end, fp_Regions_2_ends, fp_Regions_3_n, fp_Regions_3_end, fp_Regions_3_ends, fp_Regions_3_UinitU, fp_Regions_3_take, fp_Regions_3_mark, fp_Regions_3_back, fp_Regions_3_top, fp_Regions_3_marks, fp_Regions_3_twin, fp_Regions_3_UeqU, fp_Regions_3_UneU] | exact rfl)
      refine ⟨tx.q_list, ?_⟩
      repeat (first | refine And.intro rfl ?_ | apply Exists.intro | refine And.intro (Nat.le_of_ble_eq_true rfl) ?_ | refine And.intro (by decide) ?_ | refine And.intro ⟨_, _, rfl, rfl⟩ ?_ | refine And.intro ⟨_, _, rfl, rfl, rfl⟩ ?_ | refine And.intro (Hz.copy_map _ _) ?_ | refine And.intro (Hz.all_cut (Hz.copy_map _ _)) ?_ | refine And.intro (Hz.pys_map _ _) ?_ | refine And.intro (Hz.real_map _ _) ?_ | refine And.intro Hz.insNo ?_ | refine And.intro (Hz.insOnly tx.i_Regions) ?_ | refine And.intro (Hz.shaped_pl (by ((repeat' (first | exact Hz.pl_int | exact Hz.pl_bool | exact Hz.pl_none | refine Hz.pl_list ?_ | refine Hz.pl_tuple ?_ | exact Hz.plA_nil | refine Hz.plA_cons ?_ ?_ | refine Hz.plA_map (fun _ => ?_) _)); done))) ?_ | refine And.intro (.own _) ?_ | refine And.intro Hz.kit_self ?_ | refine And.intro Hz.notFirst_self ?_ | refine And.intro (show CMul _ _ from .inl ⟨by decide, by decide⟩) ?_ | refine And.intro (show CMul _ _ from .inr ⟨by decide, by decide⟩) ?_ | refine And.intro (show CMod _ _ from (by decide : (0 : Int) < _)) ?_ | refine And.intro (show CDiv _ _ from ⟨by decide, by decide⟩) ?_ | refine And.intro (show CPow _ _ from ⟨by decide, by decide, by decide⟩) ?_ | refine Or.inl (Exists.intro _ (And.intro rfl ?_)) | refine Or.inr (Exists.intro _ (And.intro rfl ?_)) | refine (fun (_ : V) => ?_) | refine (fun (_ : True) => ?_) | simp only [give_dat, give_cst, give_well, pys_nil, pys_consE, py_dat, py_lstE, py_tupE, pys_mapI, pys_mapD, dropsT_nil, dropsT_cons, startT, drop_bor, drop_lz, drop_dat, drop_cst, drop_well, drop_lst, drop_tup, drop_dic, drop_ins, opn_bor, opn_lz, opn_dat, opn_cst, opn_well, opn_lst, opn_tup, opn_dic, opn_ins, cls_bor, cls_lz, cls_dat, cls_cst, cls_well, cls_lst, cls_tup, cls_dic, cls_ins, clsAll_nil, clsAll_some, clsAll_none, Hz.putAt, putc_lst, putc_tup, putc_ins, child_lst, child_tup, child_ins, get_nil, get_cons, put_nil, put_cons, putFT, mask, List.getElem?_cons_zero, List.getElem?_cons_succ, List.set_cons_zero, List.set_cons_succ, Option.join_some, Option.map_some, Option.map_none, Option.bind_some, Option.bind_none, ite_true, ite_false, if_true, if_false, eq_self, Int.reduceToNat, Int.toNat_zero, Int.toNat_one, Int.reduceToNat, List.replicate_zero, List.replicate_succ, List.length_cons, List.length_nil, List.map_cons, List.map_nil, List.cons_append, List.nil_append, Nat.reduceSub, Nat.reduceAdd, Nat.zero_add, fp_Regions_0_n, fp_Regions_1_end, fp_Regions_2_ends, fp_Regions_3_n, fp_Regions_3_end, fp_Regions_3_ends, fp_Regions_3_UinitU, fp_Regions_3_take, fp_Regions_3_mark, fp_Regions_3_back, fp_Regions_3_top, fp_Regions_3_marks, fp_Regions_3_twin, fp_Regions_3_UeqU, fp_Regions_3_UneU] | exact rfl)
      exact hp
theorem ok_RegionsU_eqU {P : Program} {w : World} {K : PySem.W.Frag} {mg : Str → Option Value} {base : Heap} {a : Ad} (T : Tx K mg a) : FnG P w K mg base CX0 1 a.f_RegionsU_eqU a.d_RegionsU_eqU ["self", "other"] (spT K wellO (W_RegionsU_eqU a)) :=
  fn_T [0, 1] T.F_RegionsU_eqU sc_RegionsU_eqU (fun ts post ep h => len_RegionsU_eqU h) (fun cdv A outer s H E hr hg => ⟨_, w_RegionsU_eqU K a,
  (pss_one (ps_ret (pe_and (pe_callB call_isi (by rfl) (by exact T.z_isinstance) bt_isinstance (pa_cons (pv 1) (pa_cons (pe_glob (v := .ref a.C_Regions) (by rfl) (by exact T.g_Regions) (rref _)) pa_nil))) (pe_one (pe_cmpR (op_eqD (by exact room64 hr)) (pe_tup (pa_cons (pe_fld (pv 0) rfl) (pa_cons (pe_fld (pv 0) rfl) (pa_cons (pe_fld (pv 0) rfl) pa_nil)))) (pe_tup (pa_cons (pe_fld (pv 1) rfl) (pa_cons (pe_fld (pv 1) rfl) (pa_cons (pe_fld (pv 1) rfl) pa_nil)))) (nomark _)))))),
  (sv_ret (ev_and (ev_call2 op_isi ev_var ev_cst) (ev_eqTup (ea_cons (ev_fld T.c_Regions T.n_Regions_n ev_var) (ea_cons (ev_fld T.c_Regions T.n_Regions_end ev_var) (ea_cons (ev_fld T.c_Regions T.n_Regions_ends ev_var) ea_nil))) (ea_cons (ev_fld T.c_Regions T.n_Regions_n ev_var) (ea_cons (ev_fld T.c_Regions T.n_Regions_end ev_var) (ea_cons (ev_fld T.c_Regions T.n_Regions_ends ev_var) ea_nil)))))),
  law_RegionsU_eqU T⟩)

def W_RegionsU_neU (a : Ad) : SpT := fun ts post _ => (∃ (n e n' e' : Int) (es es' : List Int), ts = [RgT a.C_Regions n e es, RgT a.C_Regions n' e' es'] ∧ post (tBo (!decide (n = n' ∧ e = e' ∧ es = es'))) [some (RgT a.C_Regions n e es), some (RgT a.C_Regions n' e' es')])
theorem len_RegionsU_neU {a : Ad} {ts : List T} {post : T → Rho → Prop} {ep : Addr → T → Rho → Prop} (h : W_RegionsU_neU a ts post ep) : ts.length = 2 := by
  rcases h with ⟨n, e, n', e', es, es', rfl, _⟩
  rfl

def w_RegionsU_neU (K : PySem.W.Frag) (a : Ad) : WS := (sRt (wNot (wOwn K a.C_Regions (W_RegionsU_eqU a) (wVar 0) (wVar 1))))

theorem law_RegionsU_neU {K : PySem.W.Frag} {mg : Str → Option Value} {a : Ad} (tx : Tx K mg a) : ∀ ts post ep, W_RegionsU_neU a ts post ep → ts.length = 2 → w_RegionsU_neU K a (outO [0, 1] 2 post) (outX [0, 1] 2 ep) (startT 2 ts) := by
  rintro ts post ep ⟨n, e, n', e', es, es', rfl, hp⟩ -
  repeat (first | refine And.intro rfl ?_ | apply Exists.intro | refine And.intro (Nat.le_of_ble_eq_true rfl) ?_ | refine And.intro (by decide) ?_ | refine And.intro ⟨_, _, rfl, rfl⟩ ?_ | refine And.intro ⟨_, _, rfl, rfl, rfl⟩ ?_ | refine And.intro (Hz.copy_map _ _) ?_ | refine And.intro (Hz.all_cut (Hz.copy_map _ _)) ?_ | refine And.intro (Hz.pys_map _ _) ?_ | refine And.intro (Hz.real_map _ _) ?_ | refine And.intro Hz.insNo ?_ | refine And.intro (Hz.insOnly tx.i_Regions) ?_ | refine And.intro (Hz.shaped_pl (by ((repeat' (first | exact Hz.pl_int | exact Hz.pl_bool | exact Hz.pl_none | refine Hz.pl_list ?_ | refine Hz.pl_tuple ?_ | exact Hz.plA_nil | refine Hz.plA_cons ?_ ?_ | refine Hz.plA_map (fun _ => ?_) _)); done))) ?_ | refine And.intro (.own _) ?_ | refine And.intro Hz.kit_self ?_ | refine And.intro Hz.notFirst_self ?_ | refine And.intro (show CMul _ _ from .inl ⟨by decide, by decide⟩) ?_ | refine And.intro (show CMul _ _ from .inr ⟨by decide, by decide⟩) ?_ | refine And.intro (show CMod _ _ from (by decide : (0 : Int) < _)) ?_ | refine And.intro (show CDiv _ _ from ⟨by decide, by decide⟩) ?_ | refine And.intro (show CPow _ _ from ⟨by decide, by decide, by decide⟩) ?_ | refine Or.inl (Exists.intro _ (And.intro rfl ?_)) | refine Or.inr (Exists.intro _ (And.intro rfl ?_)) | refine (fun (_ : V) => ?_) | refine (fun (_ : True) => ?_) | simp only [give_dat, give_cst, give_well, pys_nil, pys_consE, py_dat, py_lstE, py_tupE, pys_mapI, pys_mapD, dropsT_nil, dropsT_cons, startT, drop_bor, drop_lz, drop_dat, drop_cst, drop_well, drop_lst, drop_tup, drop_dic, drop_ins, opn_bor, opn_lz, opn_dat, opn_cst, opn_well, opn_lst, opn_tup, opn_dic, opn_ins, cls_bor, cls_lz, cls_dat, cls_cst, cls_well, cls_lst, cls_tup, cls_dic, cls_ins, clsAll_nil, clsAll_some, clsAll_none, Hz.putAt, putc_lst, putc_tup, putc_ins, child_lst, child_tup, child_ins, get_nil, get_cons, put_nil, put_cons, putFT, mask, List.getElem?_cons_zero, List.getElem?_cons_succ, List.set_cons_zero, List.set_cons_succ, Option.join_some, Option.map_some, Option.map_none, Option.bind_some, Option.bind_none, ite_true, ite_false, if_true, if_false, eq_self, Int.reduceToNat, Int.toNat_zero, Int.toNat_one, Int.reduceToNat, List.replicate_zero, List.replicate_succ, List.length_cons, List.length_nil, List.map_cons, List.map_nil, List.cons_append, List.nil_append, Nat.reduceSub, Nat.reduceAdd, Nat.zero_add, fp_Regions_0_n, fp_Regions_1_end, fp_Regions_2_ends, fp_Regions_3_n, fp_Regions_3_end, fp_Regions_3_ends, fp_Regions_3_UinitU, fp_Regions_3_take, fp_Regions_3_mark, fp_Regions_3_back, fp_Regions_3_top, fp_Regions_3_marks, fp_Regions_3_twin, fp_Regions_3_UeqU, fp_Regions_3_UneU] | exact rfl)
  refine .inl ⟨n, e, n', e', es, es', rfl, fun _ => ?_⟩
  repeat (first | refine And.intro rfl ?_ | apply Exists.intro | refine And.intro (Nat.le_of_ble_eq_true rfl) ?_ | refine And.intro (by decide) ?_ | refine And.intro ⟨_, _, rfl, rfl⟩ ?_ | refine And.intro ⟨_, _, rfl, rfl, rfl⟩ ?_ | refine And.intro (Hz.copy_map _ _) ?_ | refine And.intro (Hz.all_cut (Hz.copy_map _ _)) ?_ | refine And.intro (Hz.pys_map _ _) ?_ | refine And.intro (Hz.real_map _ _) ?_ | refine And.intro Hz.insNo ?_ | refine And.intro (Hz.insOnly tx.i_Regions) ?_ | refine And.intro (Hz.shaped_pl (by ((repeat' (first | exact Hz.pl_int | exact Hz.pl_bool | exact Hz.pl_none | refine Hz.pl_list ?_ | refine Hz.pl_tuple ?_ | exact Hz.plA_nil | refine Hz.plA_cons ?_ ?_ | refine Hz.plA_map (fun _ => ?_) _)); done))) ?_ | refine And.intro (.own _) ?_ | refine And.intro Hz.kit_self ?_ | refine And.intro Hz.notFirst_self ?_ | refine And.intro (show CMul _ _ from .inl ⟨by decide, by decide⟩) ?_ | refine And.intro (show CMul _ _ from .inr ⟨by decide, by decide⟩) ?_ | refine And.intro (show CMod _ _ from (by decide : (0 : Int) < _)) ?_ | refine And.intro (show CDiv _ _ from ⟨by decide, by decide⟩) ?_ | refine And.intro (show CPow _ _ from ⟨by decide, by decide, by decide⟩) ?_ | refine Or.inl (Exists.intro _ (And.intro rfl ?_)) | refine Or.inr (Exists.intro _ (And.intro rfl ?_)) | refine (fun (_ : V) => ?_) | refine (fun (_ : True) => ?_) | simp only [give_dat, give_cst, give_well, pys_nil, pys_consE, py_dat, py_lstE, py_tupE, pys_mapI, pys_mapD, dropsT_nil, dropsT_cons, startT, drop_bor, drop_lz, drop_dat, drop_cst, drop_well, drop_lst, drop_tup, drop_dic, drop_ins, opn_bor, opn_lz, opn_dat, opn_cst, opn_well, opn_lst, opn_tup, opn_dic, opn_ins, cls_bor, cls_lz, cls_dat, cls_cst, cls_well, cls_lst, cls_tup, cls_dic, cls_ins, clsAll_nil, clsAll_some, clsAll_none, Hz.putAt, putc_lst, putc_tup, putc_ins, child_lst, child_tup, child_ins, get_nil, get_cons, put_nil, put_cons, putFT, mask, List.getElem?_cons_zero, List.getElem?_cons_succ, List.set_cons_zero, List.set_cons_succ, Option.join_some, Option.map_some, Option.map_none, Option.bind_some, Option.bind_none, ite_true, ite_false, if_true, if_false, eq_self, Int.reduceToNat, Int.toNat_zero, Int.toNat_one, Int.reduceToNat, List.replicate_zero, List.replicate_succ, List.length_cons, List.length_nil, List.map_cons, List.map_nil, List.cons_append, List.nil_append, Nat.reduceSub, Nat.reduceAdd, Nat.zero_add, fp_Regions_0_n, fp_Regions_1_end, fp_Regions_2_ends, fp_Regions_3_n, fp_Regions_3_end, fp_Regions_3_ends, fp_Regions_3_UinitU, fp_Regions_3_take, fp_Regions_3_mark, fp_Regions_3_back, fp_Regions_3_top, fp_Regions_3_marks, fp_Regions_3_twin, fp_Regions_3_UeqU, fp_Regions_3_UneU] | exact rfl)
  exact hp
theorem ok_RegionsU_neU {P : Program} {w : World} {K : PySem.W.Frag} {mg : Str → Option Value} {base : Heap} {a : Ad} (T : Tx K mg a) : FnG P w K mg base CX0 2 a.f_RegionsU_neU a.d_RegionsU_neU ["self", "other"] (spT K wellO (W_RegionsU_neU a)) :=
  fn_T [0, 1] T.F_RegionsU_neU sc_RegionsU_neU (fun ts post ep h => len_RegionsU_neU h) (fun cdv A outer s H E hr hg => ⟨_, w_RegionsU_neU K a,
  (pss_one (ps_ret (pe_not (pe_cmpR (op_own (ok_RegionsU_eqU T) (by exact hr.mono (by decide)) (by exact hg) T.bo_RegionsU_eqU passG T.M_RegionsU_eqU.at_ T.M_RegionsU_eqU.fn rfl) (pv 0) (pv 1) (nomark _))))),
  (sv_ret (ev_not (ev_own (Wf := W_RegionsU_eqU a) ev_var ev_var))),
  law_RegionsU_neU T⟩)

end K64

namespace K64
open PySem L2 Hz
def W0__law_well (_ : Ad) : SpT := fun ts post _ => ∃ (ns : List Int) (k : Int), ts = [.dat (.list (ns.map .int)), tI k] ∧ 0 ≤ k ∧ ns.length ≤ 63 ∧ ∀ i j : Int, post (.lst [tI i, tI j]) [none, none]
theorem len__law_well {a : Ad} {ts : List T} {post : T → Rho → Prop} {ep : Addr → T → Rho → Prop} (h : W0__law_well a ts post ep) : ts.length = 2 := by
  obtain ⟨ns, k, rfl, _⟩ := h
  rfl
/-- return [max(0, own - 10 ** 18), int(state * 69621 + own) % (10 ** 30 + 57)] .. -/
def t__law_well_61 (K : PySem.W.Frag) (a : Ad) : WS := (sRt (wLst (aCons (w2 (sII iMax) (wC (.int 0)) (wII0 iSub (wVar 2) (wII CPow iPow (wC (.int 10)) (wC (.int 18))))) (aCons (wII CMod iMod (w1 sInt (wII0 iAdd (wII CMul iMul (wVar 3) (wC (.int 69621))) (wVar 2))) (wII0 iAdd (wII CPow iPow (wC (.int 10)) (wC (.int 30))) (wC (.int 57)))) aNil))))
/-- for number in script[:63]: .. -/
def t__law_well_59 (K : PySem.W.Frag) (a : Ad) : WS := (sSq (sFor (iSeq true (wSl (wVar 0) oNone (oSome (wC (.int 63))))) (gN 4)
  (sAs (wII CMod iMod (w1 sInt (wII0 iAdd (wII0 iAdd (wII0 iAdd (wII CMul iMul (wVar 3) (wC (.int 48271))) (wII CMul iMul (w1 sAbs (wVar 4)) (wC (.int 2)))) (w1 sInt (wII0 bLt (wVar 4) (wC (.int 0))))) (wC (.int 11)))) (wII0 iAdd (wII CPow iPow (wC (.int 10)) (wC (.int 30))) (wC (.int 57)))) (gN 3))) (t__law_well_61 K a))
/-- if k < len(script): .. -/
def t__law_well_57 (K : PySem.W.Frag) (a : Ad) : WS := (sSq (sIf (bT (wII0 bLt (wVar 1) (w1 sLen (wVar 0)))) (sAs (w1 sAbs (w2 sIx (wVar 0) (wVar 1))) (gN 2)) sNx) (sStop (t__law_well_59 K a)))
def w__law_well (K : PySem.W.Frag) (a : Ad) : WS := (sSq (sPar 2 3 (aCons (wC (.int 0)) (aCons (wII0 iAdd (wII CMul iMul (wC (.int 7919)) (wVar 1)) (wC (.int 23))) aNil))) (t__law_well_57 K a))

theorem law__law_well {K : PySem.W.Frag} {mg : Str → Option Value} {a : Ad} (tx : Tx K mg a) : ∀ ts post ep, W0__law_well a ts post ep → ts.length = 2 → w__law_well K a (outO [] 2 post) (outX [] 2 ep) (startT 5 ts) := by
  rintro ts post ep ⟨ns, k, rfl, h0, h63, hp⟩ -
  have rest : ∀ own state : Int, t__law_well_59 K a (outO [] 2 post) (outX [] 2 ep) [some (.dat (.list (ns.map .int))), some (tI k), some (tI own), some (tI state), none] := fun own state => by
    repeat (first | refine And.intro rfl ?_ | apply Exists.intro | refine And.intro (Nat.le_of_ble_eq_true rfl) ?_ | refine And.intro (by decide) ?_ | refine And.intro ⟨_, _, rfl, rfl⟩ ?_ | refine And.intro ⟨_, _, rfl, rfl, rfl⟩ ?_ | refine And.intro (Hz.copy_map _ _) ?_ | refine And.intro (Hz.all_cut (Hz.copy_map _ _)) ?_ | refine And.intro (Hz.pys_map _ _) ?_ | refine And.intro (Hz.real_map _ _) ?_ | refine And.intro Hz.insNo ?_ | refine And.intro (Hz.insOnly tx.i_Regions) ?_ | refine And.intro (Hz.shaped_pl (by ((repeat' (first | exact Hz.pl_int | exact Hz.pl_bool | exact Hz.pl_none | refine Hz.pl_list ?_ | refine Hz.pl_tuple ?_ | exact Hz.plA_nil | refine Hz.plA_cons ?_ ?_ | refine Hz.plA_map (fun _ => ?_) _)); done))) ?_ | refine And.intro (.own _) ?_ | refine And.intro Hz.kit_self ?_ | refine And.intro Hz.notFirst_self ?_ | refine And.intro (show CMul _ _ from .inl ⟨by decide, by decide⟩) ?_ | refine And.intro (show CMul _ _ from .inr ⟨by decide, by decide⟩) ?_ | refine And.intro (show CMod _ _ from (by decide : (0 : Int) < _)) ?_ | refine And.intro (show CDiv _ _ from ⟨by decide, by decide⟩) ?_ | refine And.intro (show CPow _ _ from ⟨by decide, by decide, by decide⟩) ?_ | refine Or.inl (Exists.intro _ (And.intro rfl ?_)) | refine Or.inr (Exists.intro _ (And.intro rfl ?_)) | refine (fun (_ : V) => ?_) | refine (fun (_ : True) => ?_) | simp only [give_dat, give_cst, give_well, pys_nil, pys_consE, py_dat, py_lstE, py_tupE, pys_mapI, pys_mapD, dropsT_nil, dropsT_cons, startT, drop_bor, drop_lz, drop_dat, drop_cst, drop_well, drop_lst, drop_tup, drop_dic, drop_ins, opn_bor, opn_lz, opn_dat, opn_cst, opn_well, opn_lst, opn_tup, opn_dic, opn_ins, cls_bor, cls_lz, cls_dat, cls_cst, cls_well, cls_lst, cls_tup, cls_dic, cls_ins, clsAll_nil, clsAll_some, clsAll_none, Hz.putAt, putc_lst, putc_tup, putc_ins, child_lst, child_tup, child_ins, get_nil, get_cons, put_nil, put_cons, putFT, mask, List.getElem?_cons_zero, List.getElem?_cons_succ, List.set_cons_zero, List.set_cons_succ, Option.join_some, Option.map_some, Option.map_none, Option.bind_some, Option.bind_none, ite_true, ite_false, if_true, if_false, eq_self, Int.reduceToNat, Int.toNat_zero, Int.toNat_one, Int.reduceToNat, List.replicate_zero, List.replicate_succ, List.length_cons, List.length_nil, List.map_cons, List.map_nil, List.cons_append, List.nil_append, Nat.reduceSub, Nat.reduceAdd, Nat.zero_add, fp_Regions_0_n, fp_Regions_1_end, fp_Regions_2_ends, fp_Regions_3_n, fp_Regions_3_end, fp_Regions_3_ends, fp_Regions_3_UinitU, fp_Regions_3_take, fp_Regions_3_mark, fp_Regions_3_back, fp_Regions_3_top, fp_Regions_3_marks, fp_Regions_3_twin, fp_Regions_3_UeqU, fp_Regions_3_UneU] | exact rfl)
    refine ⟨fun i ρ => ∃ (st : Int) (nu : Option T), ρ = [some (.dat (.list (ns.map .int))), some (tI k), some (tI own), some (tI st), nu], ⟨state, none, rfl⟩, ?_, ?_⟩
    · rintro i ρ2 hi ⟨st, nu, rfl⟩
      obtain ⟨x, _, ex⟩ := dats_ints (cut_mem (getD_mem hi))
      rw [ex]
      repeat (first | refine And.intro rfl ?_ | apply Exists.intro | refine And.intro (Nat.le_of_ble_eq_true rfl) ?_ | refine And.intro (by decide) ?_ | refine And.intro ⟨_, _, rfl, rfl⟩ ?_ | refine And.intro ⟨_, _, rfl, rfl, rfl⟩ ?_ | refine And.intro (Hz.copy_map _ _) ?_ | refine And.intro (Hz.all_cut (Hz.copy_map _ _)) ?_ | refine And.intro (Hz.pys_map _ _) ?_ | refine And.intro (Hz.real_map _ _) ?_ | refine And.intro Hz.insNo ?_ | refine And.intro (Hz.insOnly tx.i_Regions) ?_ | refine And.intro (Hz.shaped_pl (by ((repeat' (first | exact Hz.pl_int | exact Hz.pl_bool | exact Hz.pl_none | refine Hz.pl_list ?_ | refine Hz.pl_tuple ?_ | exact Hz.plA_nil | refine Hz.plA_cons ?_ ?_ | refine Hz.plA_map (fun _ => ?_) _)); done))) ?_ | refine And.intro (.own _) ?_ | refine And.intro Hz.kit_self ?_ | refine And.intro Hz.notFirst_self ?_ | refine And.intro (show CMul _ _ from .inl ⟨by decide, by decide⟩) ?_ | refine And.intro (show CMul _ _ from .inr ⟨by decide, by decide⟩) ?_ | refine And.intro (show CMod _ _ from (by decide : (0 : Int) < _)) ?_ | refine And.intro (show CDiv _ _ from ⟨by decide, by decide⟩) ?_ | refine And.intro (show CPow _ _ from ⟨by decide, by decide, by decide⟩) ?_ | refine Or.inl (Exists.intro _ (And.intro rfl ?_)) | refine Or.inr (Exists.intro _ (And.intro rfl ?_)) | refine (fun (_ : V) => ?_) | refine (fun (_ : True) => ?_) | simp only [give_dat, give_cst, give_well, pys_nil, pys_consE, py_dat, py_lstE, py_tupE, pys_mapI, pys_mapD, dropsT_nil, dropsT_cons, startT, drop_bor, drop_lz, drop_dat, drop_cst, drop_well, drop_lst, drop_tup, drop_dic, drop_ins, opn_bor, opn_lz, opn_dat, opn_cst, opn_well, opn_lst, opn_tup, opn_dic, opn_ins, cls_bor, cls_lz, cls_dat, cls_cst, cls_well, cls_lst, cls_tup, cls_dic, cls_ins, clsAll_nil, clsAll_some, clsAll_none, Hz.putAt, putc_lst, putc_tup, putc_ins, child_lst, child_tup, child_ins, get_nil, get_cons, put_nil, put_cons, putFT, mask, List.getElem?_cons_zero, List.getElem?_cons_succ, List.set_cons_zero, List.set_cons_succ, Option.join_some, Option.map_some, Option.map_none, Option.bind_some, Option.bind_none, ite_true, ite_false, if_true, if_false, eq_self, Int.reduceToNat, Int.toNat_zero, Int.toNat_one, Int.reduceToNat, List.replicate_zero, List.replicate_succ, List.length_cons, List.length_nil, List.map_cons, List.map_nil, List.cons_append, List.nil_append, Nat.reduceSub, Nat.reduceAdd, Nat.zero_add, fp_Regions_0_n, fp_Regions_1_end, fp_Regions_2_ends, fp_Regions_3_n, fp_Regions_3_end, fp_Regions_3_ends, fp_Regions_3_UinitU, fp_Regions_3_take, fp_Regions_3_mark, fp_Regions_3_back, fp_Regions_3_top, fp_Regions_3_marks, fp_Regions_3_twin, fp_Regions_3_UeqU, fp_Regions_3_UneU] | exact rfl)
    · rintro ρ2 ⟨st, nu, rfl⟩
      repeat (first | refine And.intro rfl ?_ | apply Exists.intro | refine And.intro (Nat.le_of_ble_eq_true rfl) ?_ | refine And.intro (by decide) ?_ | refine And.intro ⟨_, _, rfl, rfl⟩ ?_ | refine And.intro ⟨_, _, rfl, rfl, rfl⟩ ?_ | refine And.intro (Hz.copy_map _ _) ?_ | refine And.intro (Hz.all_cut (Hz.copy_map _ _)) ?_ | refine And.intro (Hz.pys_map _ _) ?_ | refine And.intro (Hz.real_map _ _) ?_ | refine And.intro Hz.insNo ?_ | refine And.intro (Hz.insOnly tx.i_Regions) ?_ | refine And.intro (Hz.shaped_pl (by ((repeat' (first | exact Hz.pl_int | exact Hz.pl_bool | exact Hz.pl_none | refine Hz.pl_list ?_ | refine Hz.pl_tuple ?_ | exact Hz.plA_nil | refine Hz.plA_cons ?_ ?_ | refine Hz.plA_map (fun _ => ?_) _)); done))) ?_ | refine And.intro (.own _) ?_ | refine And.intro Hz.kit_self ?_ | refine And.intro Hz.notFirst_self ?_ | refine And.intro (show CMul _ _ from .inl ⟨by decide, by decide⟩) ?_ | refine And.intro (show CMul _ _ from .inr ⟨by decide, by decide⟩) ?_ | refine And.intro (show CMod _ _ from (by decide : (0 : Int) < _)) ?_ | refine And.intro (show CDiv _ _ from ⟨by decide, by decide⟩) ?_ | refine And.intro (show CPow _ _ from ⟨by decide, by decide, by decide⟩) ?_ | refine Or.inl (Exists.intro _ (And.intro rfl ?_)) | refine Or.inr (Exists.intro _ (And.intro rfl ?_)) | refine (fun (_ : V) => ?_) | refine (fun (_ : True) => ?_) | simp only [give_dat, give_cst, give_well, pys_nil, pys_consE, py_dat, py_lstE, py_tupE, pys_mapI, pys_mapD, dropsT_nil, dropsT_cons, startT, drop_bor, drop_lz, drop_dat, drop_cst, drop_well, drop_lst, drop_tup, drop_dic, drop_ins, opn_bor, opn_lz, opn_dat, opn_cst, opn_well, opn_lst, opn_tup, opn_dic, opn_ins, cls_bor, cls_lz, cls_dat, cls_cst, cls_well, cls_lst, cls_tup, cls_dic, cls_ins, clsAll_nil, clsAll_some, clsAll_none, Hz.putAt, putc_lst, putc_tup, putc_ins, child_lst, child_tup, child_ins, get_nil, get_cons, put_nil, put_cons, putFT, mask, List.getElem?_cons_zero, List.getElem?_cons_succ, List.set_cons_zero, List.set_cons_succ, Option.join_some, Option.map_some, Option.map_none, Option.bind_some, Option.bind_none, ite_true, ite_false, if_true, if_false, eq_self, Int.reduceToNat, Int.toNat_zero, Int.toNat_one, Int.reduceToNat, List.replicate_zero, List.replicate_succ, List.length_cons, List.length_nil, List.map_cons, List.map_nil, List.cons_append, List.nil_append, Nat.reduceSub, Nat.reduceAdd, Nat.zero_add, fp_Regions_0_n, fp_Regions_1_end, fp_Regions_2_ends, fp_Regions_3_n, fp_Regions_3_end, fp_Regions_3_ends, fp_Regions_3_UinitU, fp_Regions_3_take, fp_Regions_3_mark, fp_Regions_3_back, fp_Regions_3_top, fp_Regions_3_marks, fp_Regions_3_twin, fp_Regions_3_UeqU, fp_Regions_3_UneU] | exact rfl)
      exact hp _ _
  repeat (first | refine And.intro rfl ?_ | apply Exists.intro | refine And.intro (Nat.le_of_ble_eq_true rfl) ?_ | refine And.intro (by decide) ?_ | refine And.intro ⟨_, _, rfl, rfl⟩ ?_ | refine And.intro ⟨_, _, rfl, rfl, rfl⟩ ?_ | refine And.intro (Hz.copy_map _ _) ?_ | refine And.intro (Hz.all_cut (Hz.copy_map _ _)) ?_ | refine And.intro (Hz.pys_map _ _) ?_ | refine And.intro (Hz.real_map _ _) ?_ | refine And.intro Hz.insNo ?_ | refine And.intro (Hz.insOnly tx.i_Regions) ?_ | refine And.intro (Hz.shaped_pl (by ((repeat' (first | exact Hz.pl_int | exact Hz.pl_bool | exact Hz.pl_none | refine Hz.pl_list ?_ | refine Hz.pl_tuple ?_ | exact Hz.plA_nil | refine Hz.plA_cons ?_ ?_ | refine Hz.plA_map (fun _ => ?_) _)); done))) ?_ | refine And.intro (.own _) ?_ | refine And.intro Hz.kit_self ?_ | refine And.intro Hz.notFirst_self ?_ | refine And.intro (show CMul _ _ from .inl ⟨by decide, by decide⟩) ?_ | refine And.intro (show CMul _ _ from .inr ⟨by decide, by decide⟩) ?_ | refine And.intro (show CMod _ _ from (by decide : (0 : Int) < _)) ?_ | refine And.intro (show CDiv _ _ from ⟨by decide, by decide⟩) ?_ | refine And.intro (show CPow _ _ from ⟨by decide, by decide, by decide⟩) ?_ | refine Or.inl (Exists.intro _ (And.intro rfl ?_)) | refine Or.inr (Exists.intro _ (And.intro rfl ?_)) | refine (fun (_ : V) => ?_) | refine (fun (_ : True) => ?_) | simp only [give_dat, give_cst, give_well, pys_nil, pys_consE, py_dat, py_lstE, py_tupE, pys_mapI, pys_mapD, dropsT_nil, dropsT_cons, startT, drop_bor, drop_lz, drop_dat, drop_cst, drop_well, drop_lst, drop_tup, drop_dic, drop_ins, opn_bor, opn_lz, opn_dat, opn_cst, opn_well, opn_lst, opn_tup, opn_dic, opn_ins, cls_bor, cls_lz, cls_dat, cls_cst, cls_well, cls_lst, cls_tup, cls_dic, cls_ins, clsAll_nil, clsAll_some, clsAll_none, Hz.putAt, putc_lst, putc_tup, putc_ins, child_lst, child_tup, child_ins, get_nil, get_cons, put_nil, put_cons, putFT, mask, List.getElem?_cons_zero, List.getElem?_cons_succ, List.set_cons_zero, List.set_cons_succ, Option.join_some, Option.map_some, Option.map_none, Option.bind_some, Option.bind_none, ite_true, ite_false, if_true, if_false, eq_self, Int.reduceToNat, Int.toNat_zero, Int.toNat_one, Int.reduceToNat, List.replicate_zero, List.replicate_succ, List.length_cons, List.length_nil, List.map_cons, List.map_nil, List.cons_append, List.nil_append, Nat.reduceSub, Nat.reduceAdd, Nat.zero_add, fp_Regions_0_n, fp_Regions_1_end, fp_Regions_2_ends, fp_Regions_3_n, fp_Regions_3_end, fp_Regions_3_ends, fp_Regions_3_UinitU, fp_Regions_3_take, fp_Regions_3_mark, fp_Regions_3_back, fp_Regions_3_top, fp_Regions_3_marks, fp_Regions_3_twin, fp_Regions_3_UeqU, fp_Regions_3_UneU] | exact rfl)
  refine iteD (fun c => ?_) (fun c => ?_)
  · repeat (first | refine And.intro rfl ?_ | apply Exists.intro | refine And.intro (Nat.le_of_ble_eq_true rfl) ?_ | refine And.intro (by decide) ?_ | refine And.intro ⟨_, _, rfl, rfl⟩ ?_ | refine And.intro ⟨_, _, rfl, rfl, rfl⟩ ?_ | refine And.intro (Hz.copy_map _ _) ?_ | refine And.intro (Hz.all_cut (Hz.copy_map _ _)) ?_ | refine And.intro (Hz.pys_map _ _) ?_ | refine And.intro (Hz.real_map _ _) ?_ | refine And.intro Hz.insNo ?_ | refine And.intro (Hz.insOnly tx.i_Regions) ?_ | refine And.intro (Hz.shaped_pl (by ((repeat' (first | exact Hz.pl_int | exact Hz.pl_bool | exact Hz.pl_none | refine Hz.pl_list ?_ | refine Hz.pl_tuple ?_ | exact Hz.plA_nil | refine Hz.plA_cons ?_ ?_ | refine Hz.plA_map (fun _ => ?_) _)); done))) ?_ | refine And.intro (.own _) ?_ | refine And.intro Hz.kit_self ?_ | refine And.intro Hz.notFirst_self ?_ | refine And.intro (show CMul _ _ from .inl ⟨by decide, by decide⟩) ?_ | refine And.intro (show CMul _ _ from .inr ⟨by decide, by decide⟩) ?_ | refine And.intro (show CMod _ _ from (by decide : (0 : Int) < _)) ?_ | refine And.intro (show CDiv _ _ from ⟨by decide, by decide⟩) ?_ | refine And.intro (show CPow _ _ from ⟨by decide, by decide, by decide⟩) ?_ | refine Or.inl (Exists.intro _ (And.intro rfl ?_)) | refine Or.inr (Exists.intro _ (And.intro rfl ?_)) | refine (fun (_ : V) => ?_) | refine (fun (_ : True) => ?_) | simp only [give_dat, give_cst, give_well, pys_nil, pys_consE, py_dat, py_lstE, py_tupE, pys_mapI, pys_mapD, dropsT_nil, dropsT_cons, startT, drop_bor, drop_lz, drop_dat, drop_cst, drop_well, drop_lst, drop_tup, drop_dic, drop_ins, opn_bor, opn_lz, opn_dat, opn_cst, opn_well, opn_lst, opn_tup, opn_dic, opn_ins, cls_bor, cls_lz, cls_dat, cls_cst, cls_well, cls_lst, cls_tup, cls_dic, cls_ins, clsAll_nil, clsAll_some, clsAll_none, Hz.putAt, putc_lst, putc_tup, putc_ins, child_lst, child_tup, child_ins, get_nil, get_cons, put_nil, put_cons, putFT, mask, List.getElem?_cons_zero, List.getElem?_cons_succ, List.set_cons_zero, List.set_cons_succ, Option.join_some, Option.map_some, Option.map_none, Option.bind_some, Option.bind_none, ite_true, ite_false, if_true, if_false, eq_self, Int.reduceToNat, Int.toNat_zero, Int.toNat_one, Int.reduceToNat, List.replicate_zero, List.replicate_succ, List.length_cons, List.length_nil, List.map_cons, List.map_nil, List.cons_append, List.nil_append, Nat.reduceSub, Nat.reduceAdd, Nat.zero_add, fp_Regions_0_n, fp_Regions_1_end, fp_Regions_2_ends, fp_Regions_3_n, fp_Regions_3_end, fp_Regions_3_ends, fp_Regions_3_UinitU, fp_Regions_3_take, fp_Regions_3_mark, fp_Regions_3_back, fp_Regions_3_top, fp_Regions_3_marks, fp_Regions_3_twin, fp_Regions_3_UeqU, fp_Regions_3_UneU] | exact rfl)
    have c' : k < ns.length := by simpa using c
    refine ⟨ixN_of h0 c, ?_⟩
    have hx : (List.map T.dat (List.map PyData.int ns))[k.toNat]? = some (tI (ns.getD k.toNat 0)) := by
      rw [List.getElem?_map, List.getElem?_map, List.getD_eq_getElem?_getD, List.getElem?_eq_getElem (by omega)]
      rfl
    refine ⟨hx, ?_⟩
    repeat (first | refine And.intro rfl ?_ | apply Exists.intro | refine And.intro (Nat.le_of_ble_eq_true rfl) ?_ | refine And.intro (by decide) ?_ | refine And.intro ⟨_, _, rfl, rfl⟩ ?_ | refine And.intro ⟨_, _, rfl, rfl, rfl⟩ ?_ | refine And.intro (Hz.copy_map _ _) ?_ | refine And.intro (Hz.all_cut (Hz.copy_map _ _)) ?_ | refine And.intro (Hz.pys_map _ _) ?_ | refine And.intro (Hz.real_map _ _) ?_ | refine And.intro Hz.insNo ?_ | refine And.intro (Hz.insOnly tx.i_Regions) ?_ | refine And.intro (Hz.shaped_pl (by ((repeat' (first | exact Hz.pl_int | exact Hz.pl_bool | exact Hz.pl_none | refine Hz.pl_list ?_ | refine Hz.pl_tuple ?_ | exact Hz.plA_nil | refine Hz.plA_cons ?_ ?_ | refine Hz.plA_map (fun _ => ?_) _)); done))) ?_ | refine And.intro (.own _) ?_ | refine And.intro Hz.kit_self ?_ | refine And.intro Hz.notFirst_self ?_ | refine And.intro (show CMul _ _ from .inl ⟨by decide, by decide⟩) ?_ | refine And.intro (show CMul _ _ from .inr ⟨by decide, by decide⟩) ?_ | refine And.intro (show CMod _ _ from (by decide : (0 : Int) < _)) ?_ | refine And.intro (show CDiv _ _ from ⟨by decide, by decide⟩) ?_ | refine And.intro (show CPow _ _ from ⟨by decide, by decide, by decide⟩) ?_ | refine Or.inl (Exists.intro _ (And.intro rfl ?_)) | refine Or.inr (Exists.intro _ (And.intro rfl ?_)) | refine (fun (_ : V) => ?_) | refine (fun (_ : True) => ?_) | simp only [give_dat, give_cst, give_well, pys_nil, pys_consE, py_dat, py_lstE, py_tupE, pys_mapI, pys_mapD, dropsT_nil, dropsT_cons, startT, drop_bor, drop_lz, drop_dat, drop_cst, drop_well, drop_lst, drop_tup, drop_dic, drop_ins, opn_bor, opn_lz, opn_dat, opn_cst, opn_well, opn_lst, opn_tup, opn_dic, opn_ins, cls_bor, cls_lz, cls_dat, cls_cst, cls_well, cls_lst, cls_tup, cls_dic, cls_ins, clsAll_nil, clsAll_some, clsAll_none, Hz.putAt, putc_lst, putc_tup, putc_ins, child_lst, child_tup, child_ins, get_nil, get_cons, put_nil, put_cons, putFT, mask, List.getElem?_cons_zero, List.getElem?_cons_succ, List.set_cons_zero, List.set_cons_succ, Option.join_some, Option.map_some, Option.map_none, Option.bind_some, Option.bind_none, ite_true, ite_false, if_true, if_false, eq_self, Int.reduceToNat, Int.toNat_zero, Int.toNat_one, Int.reduceToNat, List.replicate_zero, List.replicate_succ, List.length_cons, List.length_nil, List.map_cons, List.map_nil, List.cons_append, List.nil_append, Nat.reduceSub, Nat.reduceAdd, Nat.zero_add, fp_Regions_0_n, fp_Regions_1_end, fp_Regions_2_ends, fp_Regions_3_n, fp_Regions_3_end, fp_Regions_3_ends, fp_Regions_3_UinitU, fp_Regions_3_take, fp_Regions_3_mark, fp_Regions_3_back, fp_Regions_3_top, fp_Regions_3_marks, fp_Regions_3_twin, fp_Regions_3_UeqU, fp_Regions_3_UneU] | exact rfl)
    exact ⟨rest _ _⟩
  · repeat (first | refine And.intro rfl ?_ | apply Exists.intro | refine And.intro (Nat.le_of_ble_eq_true rfl) ?_ | refine And.intro (by decide) ?_ | refine And.intro ⟨_, _, rfl, rfl⟩ ?_ | refine And.intro ⟨_, _, rfl, rfl, rfl⟩ ?_ | refine And.intro (Hz.copy_map _ _) ?_ | refine And.intro (Hz.all_cut (Hz.copy_map _ _)) ?_ | refine And.intro (Hz.pys_map _ _) ?_ | refine And.intro (Hz.real_map _ _) ?_ | refine And.intro Hz.insNo ?_ | refine And.intro (Hz.insOnly tx.i_Regions) ?_ | refine And.intro (Hz.shaped_pl (by ((repeat' (first | exact Hz.pl_int | exact Hz.pl_bool | exact Hz.pl_none | refine Hz.pl_list ?_ | refine Hz.pl_tuple ?_ | exact Hz.plA_nil | refine Hz.plA_cons ?_ ?_ | refine Hz.plA_map (fun _ => ?_) _)); done))) ?_ | refine And.intro (.own _) ?_ | refine And.intro Hz.kit_self ?_ | refine And.intro Hz.notFirst_self ?_ | refine And.intro (show CMul _ _ from .inl ⟨by decide, by decide⟩) ?_ | refine And.intro (show CMul _ _ from .inr ⟨by decide, by decide⟩) ?_ | refine And.intro (show CMod _ _ from (by decide : (0 : Int) < _)) ?_ | refine And.intro (show CDiv _ _ from ⟨by decide, by decide⟩) ?_ | refine And.intro (show CPow _ _ from ⟨by decide, by decide, by decide⟩) ?_ | refine Or.inl (Exists.intro _ (And.intro rfl ?_)) | refine Or.inr (Exists.intro _ (And.intro rfl ?_)) | refine (fun (_ : V) => ?_) | refine (fun (_ : True) => ?_) | simp only [give_dat, give_cst, give_well, pys_nil, pys_consE, py_dat, py_lstE, py_tupE, pys_mapI, pys_mapD, dropsT_nil, dropsT_cons, startT, drop_bor, drop_lz, drop_dat, drop_cst, drop_well, drop_lst, drop_tup, drop_dic, drop_ins, opn_bor, opn_lz, opn_dat, opn_cst, opn_well, opn_lst, opn_tup, opn_dic, opn_ins, cls_bor, cls_lz, cls_dat, cls_cst, cls_well, cls_lst, cls_tup, cls_dic, cls_ins, clsAll_nil, clsAll_some, clsAll_none, Hz.putAt, putc_lst, putc_tup, putc_ins, child_lst, child_tup, child_ins, get_nil, get_cons, put_nil, put_cons, putFT, mask, List.getElem?_cons_zero, List.getElem?_cons_succ, List.set_cons_zero, List.set_cons_succ, Option.join_some, Option.map_some, Option.map_none, Option.bind_some, Option.bind_none, ite_true, ite_false, if_true, if_false, eq_self, Int.reduceToNat, Int.toNat_zero, Int.toNat_one, Int.reduceToNat, List.replicate_zero, List.replicate_succ, List.length_cons, List.length_nil, List.map_cons, List.map_nil, List.cons_append, List.nil_append, Nat.reduceSub, Nat.reduceAdd, Nat.zero_add, fp_Regions_0_n, fp_Regions_1_end, fp_Regions_2_ends, fp_Regions_3_n, fp_Regions_3_end, fp_Regions_3_ends, fp_Regions_3_UinitU, fp_Regions_3_take, fp_Regions_3_mark, fp_Regions_3_back, fp_Regions_3_top, fp_Regions_3_marks, fp_Regions_3_twin, fp_Regions_3_UeqU, fp_Regions_3_UneU] | exact rfl)
    exact ⟨rest _ _⟩
theorem ok0__law_well {P : Program} {w : World} {K : PySem.W.Frag} {mg : Str → Option Value} {base : Heap} {a : Ad} (T : Tx K mg a) : FnG P w K mg base CX0 1 a.f__law_well a.d__law_well ["script", "k"] (spT K wellO (W0__law_well a)) :=
  fn_T [] T.F__law_well sc__law_well (fun ts post ep h => len__law_well h) (fun cdv A outer s H E hr hg => ⟨_, w__law_well K a,
  (pss_cons (ps_par (i := 2) (j := 3) rfl sc__law_well.nd rfl rfl (by decide) rfl rfl (pa_cons pe_int (pa_cons (pe_op op_add (pe_op op_mul pe_int (pv 1)) pe_int) pa_nil)) (by rfl))
  (pss_cons (ps_if (pt_cmpR op_lt (pv 1) (pe_callB call_len (by rfl) (by exact T.z_len) bt_len (pa_cons (pv 0) pa_nil)) (nomark _)) (pss_one (ps_set (i := 2) sc__law_well.nd rfl (Or.inl rfl) (pe_callB call_abs (by rfl) (by exact T.z_abs) bt_abs (pa_cons (pe_ix ix_seq (pv 0) (pv 1) (fun _ _ => rfl)) pa_nil)))) pss_nil)
  (pss_cons (ps_for PassesOwn.never rfl (pi_list (pe_slice sl_list (pv 0) po_none (po_some pe_int))) (pg_name (i := 4) sc__law_well.nd rfl (Or.inl rfl))
  (pss_one (ps_set (i := 3) sc__law_well.nd rfl (Or.inl rfl) (pe_op op_mod (pe_callTy call_int1 (by rfl) (by exact T.z_int) bt_int (pa_cons (pe_op op_add (pe_op op_add (pe_op op_add (pe_op op_mul (pv 3) pe_int) (pe_op op_mul (pe_callB call_abs (by rfl) (by exact T.z_abs) bt_abs (pa_cons (pv 4) pa_nil)) pe_int)) (pe_callTy call_int1 (by rfl) (by exact T.z_int) bt_int (pa_cons (pe_cmpR op_lt (pv 4) pe_int (nomark _)) pa_nil))) pe_int) pa_nil)) (pe_op op_add (pe_op op_pow pe_int pe_int) pe_int)))))
  (pss_one (ps_ret (pe_lst (pa_cons (pe_callB (call_max2 rfl) (by rfl) (by exact T.z_max) bt_max (pa_cons pe_int (pa_cons (pe_op op_sub (pv 2) (pe_op op_pow pe_int pe_int)) pa_nil))) (pa_cons (pe_op op_mod (pe_callTy call_int1 (by rfl) (by exact T.z_int) bt_int (pa_cons (pe_op op_add (pe_op op_mul (pv 3) pe_int) (pv 2)) pa_nil)) (pe_op op_add (pe_op op_pow pe_int pe_int) pe_int)) pa_nil)))))))),
  (sv_seq (sv_par (by decide) (by decide) (ea_cons ev_int (ea_cons (ev_add (ev_mul ev_int ev_var) ev_int) ea_nil)))
  (sv_seq (sv_if (et_test (ev_lt ev_var (ev_call1 op_len ev_var))) (sv_asg (ev_call1 op_abs (ev_op2 op_ix ev_var ev_var)) (g_name (by decide))) sv_next)
  (sv_stop (sv_seq (sv_for (ei_list (ev_sl ev_var eo_none (eo_some ev_int))) (g_name (by decide))
  (sv_asg (ev_mod (ev_call1 op_int (ev_add (ev_add (ev_add (ev_mul ev_var ev_int) (ev_mul (ev_call1 op_abs ev_var) ev_int)) (ev_call1 op_int (ev_lt ev_var ev_int))) ev_int)) (ev_add (ev_pow ev_int ev_int) ev_int)) (g_name (by decide))))
  (sv_ret (ev_lst (ea_cons (ev_call2 op_max2 ev_int (ev_sub ev_var (ev_pow ev_int ev_int))) (ea_cons (ev_mod (ev_call1 op_int (ev_add (ev_mul ev_var ev_int) ev_var)) (ev_add (ev_pow ev_int ev_int) ev_int)) ea_nil)))))))),
  law__law_well T⟩)

def W0__law_draw (_ : Ad) : SpT := fun ts post _ => ∃ x y limit : Int, ts = [.lst [tI x, tI y], tI limit] ∧ 0 < limit ∧ ∀ i j r : Int, 0 ≤ r → r < limit → post (tI r) [some (.lst [tI i, tI j]), none]
theorem len__law_draw {a : Ad} {ts : List T} {post : T → Rho → Prop} {ep : Addr → T → Rho → Prop} (h : W0__law_draw a ts post ep) : ts.length = 2 := by
  obtain ⟨x, y, limit, rfl, _⟩ := h
  rfl
/-- return int(found) % limit .. -/
def t__law_draw_66 (K : PySem.W.Frag) (a : Ad) : WS := (sRt (wII CMod iMod (w1 sInt (wVar 2)) (wVar 1)))
/-- well[0] = int(well[0]) // 1000 .. -/
def t__law_draw_65 (K : PySem.W.Frag) (a : Ad) : WS := (sSq (sAs (wII CDiv iDiv (w1 sInt (w2 sIx (wVar 0) (wC (.int 0)))) (wC (.int 1000))) (gIx (wVar 0) (wC (.int 0)))) (t__law_draw_66 K a))
/-- return int(well[1] // 10 ** 9) % limit .. -/
def t__law_draw_68 (K : PySem.W.Frag) (a : Ad) : WS := (sRt (wII CMod iMod (w1 sInt (wII CDiv iDiv (w2 sIx (wVar 0) (wC (.int 1))) (wII CPow iPow (wC (.int 10)) (wC (.int 9))))) (wVar 1)))
/-- well[1] = int(well[1] * 6364136223846793005 + 1442695040888963407) % (10 ** 30 + 57) .. -/
def t__law_draw_67 (K : PySem.W.Frag) (a : Ad) : WS := (sSq (sAs (wII CMod iMod (w1 sInt (wII0 iAdd (wII CMul iMul (w2 sIx (wVar 0) (wC (.int 1))) (wC (.int 6364136223846793005))) (wC (.int 1442695040888963407)))) (wII0 iAdd (wII CPow iPow (wC (.int 10)) (wC (.int 30))) (wC (.int 57)))) (gIx (wVar 0) (wC (.int 1)))) (t__law_draw_68 K a))
def w__law_draw (K : PySem.W.Frag) (a : Ad) : WS := (sSq (sIf (bT (wII0 bGt (w2 sIx (wVar 0) (wC (.int 0))) (wC (.int 0)))) (sSq (sAs (wII CMod iMod (w1 sInt (w2 sIx (wVar 0) (wC (.int 0)))) (wC (.int 1000))) (gN 2)) (t__law_draw_65 K a)) sNx) (t__law_draw_67 K a))

theorem law__law_draw {K : PySem.W.Frag} {mg : Str → Option Value} {a : Ad} (tx : Tx K mg a) : ∀ ts post ep, W0__law_draw a ts post ep → ts.length = 2 → w__law_draw K a (outO [0] 2 post) (outX [0] 2 ep) (startT 3 ts) := by
  rintro ts post ep ⟨x, y, limit, rfl, h0, hp⟩ -
  repeat (first | refine And.intro rfl ?_ | apply Exists.intro | refine And.intro (Nat.le_of_ble_eq_true rfl) ?_ | refine And.intro (by decide) ?_ | refine And.intro ⟨_, _, rfl, rfl⟩ ?_ | refine And.intro ⟨_, _, rfl, rfl, rfl⟩ ?_ | refine And.intro (Hz.copy_map _ _) ?_ | refine And.intro (Hz.all_cut (Hz.copy_map _ _)) ?_ | refine And.intro (Hz.pys_map _ _) ?_ | refine And.intro (Hz.real_map _ _) ?_ | refine And.intro Hz.insNo ?_ | refine And.intro (Hz.insOnly tx.i_Regions) ?_ | refine And.intro (Hz.shaped_pl (by ((repeat' (first | exact Hz.pl_int | exact Hz.pl_bool | exact Hz.pl_none | refine Hz.pl_list ?_ | refine Hz.pl_tuple ?_ | exact Hz.plA_nil | refine Hz.plA_cons ?_ ?_ | refine Hz.plA_map (fun _ => ?_) _)); done))) ?_ | refine And.intro (.own _) ?_ | refine And.intro Hz.kit_self ?_ | refine And.intro Hz.notFirst_self ?_ | refine And.intro (show CMul _ _ from .inl ⟨by decide, by decide⟩) ?_ | refine And.intro (show CMul _ _ from .inr ⟨by decide, by decide⟩) ?_ | refine And.intro (show CMod _ _ from (by decide : (0 : Int) < _)) ?_ | refine And.intro (show CDiv _ _ from ⟨by decide, by decide⟩) ?_ | refine And.intro (show CPow _ _ from ⟨by decide, by decide, by decide⟩) ?_ | refine Or.inl (Exists.intro _ (And.intro rfl ?_)) | refine Or.inr (Exists.intro _ (And.intro rfl ?_)) | refine (fun (_ : V) => ?_) | refine (fun (_ : True) => ?_) | simp only [give_dat, give_cst, give_well, pys_nil, pys_consE, py_dat, py_lstE, py_tupE, pys_mapI, pys_mapD, dropsT_nil, dropsT_cons, startT, drop_bor, drop_lz, drop_dat, drop_cst, drop_well, drop_lst, drop_tup, drop_dic, drop_ins, opn_bor, opn_lz, opn_dat, opn_cst, opn_well, opn_lst, opn_tup, opn_dic, opn_ins, cls_bor, cls_lz, cls_dat, cls_cst, cls_well, cls_lst, cls_tup, cls_dic, cls_ins, clsAll_nil, clsAll_some, clsAll_none, Hz.putAt, putc_lst, putc_tup, putc_ins, child_lst, child_tup, child_ins, get_nil, get_cons, put_nil, put_cons, putFT, mask, List.getElem?_cons_zero, List.getElem?_cons_succ, List.set_cons_zero, List.set_cons_succ, Option.join_some, Option.map_some, Option.map_none, Option.bind_some, Option.bind_none, ite_true, ite_false, if_true, if_false, eq_self, Int.reduceToNat, Int.toNat_zero, Int.toNat_one, Int.reduceToNat, List.replicate_zero, List.replicate_succ, List.length_cons, List.length_nil, List.map_cons, List.map_nil, List.cons_append, List.nil_append, Nat.reduceSub, Nat.reduceAdd, Nat.zero_add, fp_Regions_0_n, fp_Regions_1_end, fp_Regions_2_ends, fp_Regions_3_n, fp_Regions_3_end, fp_Regions_3_ends, fp_Regions_3_UinitU, fp_Regions_3_take, fp_Regions_3_mark, fp_Regions_3_back, fp_Regions_3_top, fp_Regions_3_marks, fp_Regions_3_twin, fp_Regions_3_UeqU, fp_Regions_3_UneU] | exact rfl)
  refine iteD (fun c => ?_) (fun c => ?_)
  · repeat (first | refine And.intro rfl ?_ | apply Exists.intro | refine And.intro (Nat.le_of_ble_eq_true rfl) ?_ | refine And.intro (by decide) ?_ | refine And.intro ⟨_, _, rfl, rfl⟩ ?_ | refine And.intro ⟨_, _, rfl, rfl, rfl⟩ ?_ | refine And.intro (Hz.copy_map _ _) ?_ | refine And.intro (Hz.all_cut (Hz.copy_map _ _)) ?_ | refine And.intro (Hz.pys_map _ _) ?_ | refine And.intro (Hz.real_map _ _) ?_ | refine And.intro Hz.insNo ?_ | refine And.intro (Hz.insOnly tx.i_Regions) ?_ | refine And.intro (Hz.shaped_pl (by ((repeat' (first | exact Hz.pl_int | exact Hz.pl_bool | exact Hz.pl_none | refine Hz.pl_list ?_ | refine Hz.pl_tuple ?_ | exact Hz.plA_nil | refine Hz.plA_cons ?_ ?_ | refine Hz.plA_map (fun _ => ?_) _)); done))) ?_ | refine And.intro (.own _) ?_ | refine And.intro Hz.kit_self ?_ | refine And.intro Hz.notFirst_self ?_ | refine And.intro (show CMul _ _ from .inl ⟨by decide, by decide⟩) ?_ | refine And.intro (show CMul _ _ from .inr ⟨by decide, by decide⟩) ?_ | refine And.intro (show CMod _ _ from (by decide : (0 : Int) < _)) ?_ | refine And.intro (show CDiv _ _ from ⟨by decide, by decide⟩) ?_ | refine And.intro (show CPow _ _ from ⟨by decide, by decide, by decide⟩) ?_ | refine Or.inl (Exists.intro _ (And.intro rfl ?_)) | refine Or.inr (Exists.intro _ (And.intro rfl ?_)) | refine (fun (_ : V) => ?_) | refine (fun (_ : True) => ?_) | simp only [give_dat, give_cst, give_well, pys_nil, pys_consE, py_dat, py_lstE, py_tupE, pys_mapI, pys_mapD, dropsT_nil, dropsT_cons, startT, drop_bor, drop_lz, drop_dat, drop_cst, drop_well, drop_lst, drop_tup, drop_dic, drop_ins, opn_bor, opn_lz, opn_dat, opn_cst, opn_well, opn_lst, opn_tup, opn_dic, opn_ins, cls_bor, cls_lz, cls_dat, cls_cst, cls_well, cls_lst, cls_tup, cls_dic, cls_ins, clsAll_nil, clsAll_some, clsAll_none, Hz.putAt, putc_lst, putc_tup, putc_ins, child_lst, child_tup, child_ins, get_nil, get_cons, put_nil, put_cons, putFT, mask, List.getElem?_cons_zero, List.getElem?_cons_succ, List.set_cons_zero, List.set_cons_succ, Option.join_some, Option.map_some, Option.map_none, Option.bind_some, Option.bind_none, ite_true, ite_false, if_true, if_false, eq_self, Int.reduceToNat, Int.toNat_zero, Int.toNat_one, Int.reduceToNat, List.replicate_zero, List.replicate_succ, List.length_cons, List.length_nil, List.map_cons, List.map_nil, List.cons_append, List.nil_append, Nat.reduceSub, Nat.reduceAdd, Nat.zero_add, fp_Regions_0_n, fp_Regions_1_end, fp_Regions_2_ends, fp_Regions_3_n, fp_Regions_3_end, fp_Regions_3_ends, fp_Regions_3_UinitU, fp_Regions_3_take, fp_Regions_3_mark, fp_Regions_3_back, fp_Regions_3_top, fp_Regions_3_marks, fp_Regions_3_twin, fp_Regions_3_UeqU, fp_Regions_3_UneU] | exact rfl)
    refine ⟨show CMod _ _ from h0, ?_⟩
    repeat (first | refine And.intro rfl ?_ | apply Exists.intro | refine And.intro (Nat.le_of_ble_eq_true rfl) ?_ | refine And.intro (by decide) ?_ | refine And.intro ⟨_, _, rfl, rfl⟩ ?_ | refine And.intro ⟨_, _, rfl, rfl, rfl⟩ ?_ | refine And.intro (Hz.copy_map _ _) ?_ | refine And.intro (Hz.all_cut (Hz.copy_map _ _)) ?_ | refine And.intro (Hz.pys_map _ _) ?_ | refine And.intro (Hz.real_map _ _) ?_ | refine And.intro Hz.insNo ?_ | refine And.intro (Hz.insOnly tx.i_Regions) ?_ | refine And.intro (Hz.shaped_pl (by ((repeat' (first | exact Hz.pl_int | exact Hz.pl_bool | exact Hz.pl_none | refine Hz.pl_list ?_ | refine Hz.pl_tuple ?_ | exact Hz.plA_nil | refine Hz.plA_cons ?_ ?_ | refine Hz.plA_map (fun _ => ?_) _)); done))) ?_ | refine And.intro (.own _) ?_ | refine And.intro Hz.kit_self ?_ | refine And.intro Hz.notFirst_self ?_ | refine And.intro (show CMul _ _ from .inl ⟨by decide, by decide⟩) ?_ | refine And.intro (show CMul _ _ from .inr ⟨by decide, by decide⟩) ?_ | refine And.intro (show CMod _ _ from (by decide : (0 : Int) < _)) ?_ | refine And.intro (show CDiv _ _ from ⟨by decide, by decide⟩) ?_ | refine And.intro (show CPow _ _ from ⟨by decide, by decide, by decide⟩) ?_ | refine Or.inl (Exists.intro _ (And.intro rfl ?_)) | refine Or.inr (Exists.intro _ (And.intro rfl ?_)) | refine (fun (_ : V) => ?_) | refine (fun (_ : True) => ?_) | simp only [give_dat, give_cst, give_well, pys_nil, pys_consE, py_dat, py_lstE, py_tupE, pys_mapI, pys_mapD, dropsT_nil, dropsT_cons, startT, drop_bor, drop_lz, drop_dat, drop_cst, drop_well, drop_lst, drop_tup, drop_dic, drop_ins, opn_bor, opn_lz, opn_dat, opn_cst, opn_well, opn_lst, opn_tup, opn_dic, opn_ins, cls_bor, cls_lz, cls_dat, cls_cst, cls_well, cls_lst, cls_tup, cls_dic, cls_ins, clsAll_nil, clsAll_some, clsAll_none, Hz.putAt, putc_lst, putc_tup, putc_ins, child_lst, child_tup, child_ins, get_nil, get_cons, put_nil, put_cons, putFT, mask, List.getElem?_cons_zero, List.getElem?_cons_succ, List.set_cons_zero, List.set_cons_succ, Option.join_some, Option.map_some, Option.map_none, Option.bind_some, Option.bind_none, ite_true, ite_false, if_true, if_false, eq_self, Int.reduceToNat, Int.toNat_zero, Int.toNat_one, Int.reduceToNat, List.replicate_zero, List.replicate_succ, List.length_cons, List.length_nil, List.map_cons, List.map_nil, List.cons_append, List.nil_append, Nat.reduceSub, Nat.reduceAdd, Nat.zero_add, fp_Regions_0_n, fp_Regions_1_end, fp_Regions_2_ends, fp_Regions_3_n, fp_Regions_3_end, fp_Regions_3_ends, fp_Regions_3_UinitU, fp_Regions_3_take, fp_Regions_3_mark, fp_Regions_3_back, fp_Regions_3_top, fp_Regions_3_marks, fp_Regions_3_twin, fp_Regions_3_UeqU, fp_Regions_3_UneU] | exact rfl)
    exact hp _ _ _ (Int.emod_nonneg _ (by omega)) (Int.emod_lt_of_pos _ h0)
  · repeat (first | refine And.intro rfl ?_ | apply Exists.intro | refine And.intro (Nat.le_of_ble_eq_true rfl) ?_ | refine And.intro (by decide) ?_ | refine And.intro ⟨_, _, rfl, rfl⟩ ?_ | refine And.intro ⟨_, _, rfl, rfl, rfl⟩ ?_ | refine And.intro (Hz.copy_map _ _) ?_ | refine And.intro (Hz.all_cut (Hz.copy_map _ _)) ?_ | refine And.intro (Hz.pys_map _ _) ?_ | refine And.intro (Hz.real_map _ _) ?_ | refine And.intro Hz.insNo ?_ | refine And.intro (Hz.insOnly tx.i_Regions) ?_ | refine And.intro (Hz.shaped_pl (by ((repeat' (first | exact Hz.pl_int | exact Hz.pl_bool | exact Hz.pl_none | refine Hz.pl_list ?_ | refine Hz.pl_tuple ?_ | exact Hz.plA_nil | refine Hz.plA_cons ?_ ?_ | refine Hz.plA_map (fun _ => ?_) _)); done))) ?_ | refine And.intro (.own _) ?_ | refine And.intro Hz.kit_self ?_ | refine And.intro Hz.notFirst_self ?_ | refine And.intro (show CMul _ _ from .inl ⟨by decide, by decide⟩) ?_ | refine And.intro (show CMul _ _ from .inr ⟨by decide, by decide⟩) ?_ | refine And.intro (show CMod _ _ from (by decide : (0 : Int) < _)) ?_ | refine And.intro (show CDiv _ _ from ⟨by decide, by decide⟩) ?_ | refine And.intro (show CPow _ _ from ⟨by decide, by decide, by decide⟩) ?_ | refine Or.inl (Exists.intro _ (And.intro rfl ?_)) | refine Or.inr (Exists.intro _ (And.intro rfl ?_)) | refine (fun (_ : V) => ?_) | refine (fun (_ : True) => ?_) | simp only [give_dat, give_cst, give_well, pys_nil, pys_consE, py_dat, py_lstE, py_tupE, pys_mapI, pys_mapD, dropsT_nil, dropsT_cons, startT, drop_bor, drop_lz, drop_dat, drop_cst, drop_well, drop_lst, drop_tup, drop_dic, drop_ins, opn_bor, opn_lz, opn_dat, opn_cst, opn_well, opn_lst, opn_tup, opn_dic, opn_ins, cls_bor, cls_lz, cls_dat, cls_cst, cls_well, cls_lst, cls_tup, cls_dic, cls_ins, clsAll_nil, clsAll_some, clsAll_none, Hz.putAt, putc_lst, putc_tup, putc_ins, child_lst, child_tup, child_ins, get_nil, get_cons, put_nil, put_cons, putFT, mask, List.getElem?_cons_zero, List.getElem?_cons_succ, List.set_cons_zero, List.set_cons_succ, Option.join_some, Option.map_some, Option.map_none, Option.bind_some, Option.bind_none, ite_true, ite_false, if_true, if_false, eq_self, Int.reduceToNat, Int.toNat_zero, Int.toNat_one, Int.reduceToNat, List.replicate_zero, List.replicate_succ, List.length_cons, List.length_nil, List.map_cons, List.map_nil, List.cons_append, List.nil_append, Nat.reduceSub, Nat.reduceAdd, Nat.zero_add, fp_Regions_0_n, fp_Regions_1_end, fp_Regions_2_ends, fp_Regions_3_n, fp_Regions_3_end, fp_Regions_3_ends, fp_Regions_3_UinitU, fp_Regions_3_take, fp_Regions_3_mark, fp_Regions_3_back, fp_Regions_3_top, fp_Regions_3_marks, fp_Regions_3_twin, fp_Regions_3_UeqU, fp_Regions_3_UneU] | exact rfl)
    refine ⟨show CMod _ _ from h0, ?_⟩
    repeat (first | refine And.intro rfl ?_ | apply Exists.intro | refine And.intro (Nat.le_of_ble_eq_true rfl) ?_ | refine And.intro (by decide) ?_ | refine And.intro ⟨_, _, rfl, rfl⟩ ?_ | refine And.intro ⟨_, _, rfl, rfl, rfl⟩ ?_ | refine And.intro (Hz.copy_map _ _) ?_ | refine And.intro (Hz.all_cut (Hz.copy_map _ _)) ?_ | refine And.intro (Hz.pys_map _ _) ?_ | refine And.intro (Hz.real_map _ _) ?_ | refine And.intro Hz.insNo ?_ | refine And.intro (Hz.insOnly tx.i_Regions) ?_ | refine And.intro (Hz.shaped_pl (by ((repeat' (first | exact Hz.pl_int | exact Hz.pl_bool | exact Hz.pl_none | refine Hz.pl_list ?_ | refine Hz.pl_tuple ?_ | exact Hz.plA_nil | refine Hz.plA_cons ?_ ?_ | refine Hz.plA_map (fun _ => ?_) _)); done))) ?_ | refine And.intro (.own _) ?_ | refine And.intro Hz.kit_self ?_ | refine And.intro Hz.notFirst_self ?_ | refine And.intro (show CMul _ _ from .inl ⟨by decide, by decide⟩) ?_ | refine And.intro (show CMul _ _ from .inr ⟨by decide, by decide⟩) ?_ | refine And.intro (show CMod _ _ from (by decide : (0 : Int) < _)) ?_ | refine And.intro (show CDiv _ _ from ⟨by decide, by decide⟩) ?_ | refine And.intro (show CPow _ _ from ⟨by decide, by decide, by decide⟩) ?_ | refine Or.inl (Exists.intro _ (And.intro rfl ?_)) | refine Or.inr (Exists.intro _ (And.intro rfl ?_)) | refine (fun (_ : V) => ?_) | refine (fun (_ : True) => ?_) | simp only [give_dat, give_cst, give_well, pys_nil, pys_consE, py_dat, py_lstE, py_tupE, pys_mapI, pys_mapD, dropsT_nil, dropsT_cons, startT, drop_bor, drop_lz, drop_dat, drop_cst, drop_well, drop_lst, drop_tup, drop_dic, drop_ins, opn_bor, opn_lz, opn_dat, opn_cst, opn_well, opn_lst, opn_tup, opn_dic, opn_ins, cls_bor, cls_lz, cls_dat, cls_cst, cls_well, cls_lst, cls_tup, cls_dic, cls_ins, clsAll_nil, clsAll_some, clsAll_none, Hz.putAt, putc_lst, putc_tup, putc_ins, child_lst, child_tup, child_ins, get_nil, get_cons, put_nil, put_cons, putFT, mask, List.getElem?_cons_zero, List.getElem?_cons_succ, List.set_cons_zero, List.set_cons_succ, Option.join_some, Option.map_some, Option.map_none, Option.bind_some, Option.bind_none, ite_true, ite_false, if_true, if_false, eq_self, Int.reduceToNat, Int.toNat_zero, Int.toNat_one, Int.reduceToNat, List.replicate_zero, List.replicate_succ, List.length_cons, List.length_nil, List.map_cons, List.map_nil, List.cons_append, List.nil_append, Nat.reduceSub, Nat.reduceAdd, Nat.zero_add, fp_Regions_0_n, fp_Regions_1_end, fp_Regions_2_ends, fp_Regions_3_n, fp_Regions_3_end, fp_Regions_3_ends, fp_Regions_3_UinitU, fp_Regions_3_take, fp_Regions_3_mark, fp_Regions_3_back, fp_Regions_3_top, fp_Regions_3_marks, fp_Regions_3_twin, fp_Regions_3_UeqU, fp_Regions_3_UneU] | exact rfl)
    exact hp _ _ _ (Int.emod_nonneg _ (by omega)) (Int.emod_lt_of_pos _ h0)
theorem ok0__law_draw {P : Program} {w : World} {K : PySem.W.Frag} {mg : Str → Option Value} {base : Heap} {a : Ad} (T : Tx K mg a) : FnG P w K mg base CX0 1 a.f__law_draw a.d__law_draw ["well", "limit"] (spT K wellO (W0__law_draw a)) :=
  fn_T [0] T.F__law_draw sc__law_draw (fun ts post ep h => len__law_draw h) (fun cdv A outer s H E hr hg => ⟨_, w__law_draw K a,
  (pss_cons (ps_if (pt_cmpR op_gt (pe_ix ix_seq (pv 0) pe_int (fun _ _ => rfl)) pe_int (nomark _)) (pss_cons (ps_set (i := 2) sc__law_draw.nd rfl (Or.inl rfl) (pe_op op_mod (pe_callTy call_int1 (by rfl) (by exact T.z_int) bt_int (pa_cons (pe_ix ix_seq (pv 0) pe_int (fun _ _ => rfl)) pa_nil)) pe_int))
  (pss_cons (ps_asg (pe_op op_fdiv (pe_callTy call_int1 (by rfl) (by exact T.z_int) bt_int (pa_cons (pe_ix ix_seq (pv 0) pe_int (fun _ _ => rfl)) pa_nil)) pe_int) (pg_sub (pv 0) pe_int set_list))
  (pss_one (ps_ret (pe_op op_mod (pe_callTy call_int1 (by rfl) (by exact T.z_int) bt_int (pa_cons (pv 2) pa_nil)) (pv 1)))))) pss_nil)
  (pss_cons (ps_asg (pe_op op_mod (pe_callTy call_int1 (by rfl) (by exact T.z_int) bt_int (pa_cons (pe_op op_add (pe_op op_mul (pe_ix ix_seq (pv 0) pe_int (fun _ _ => rfl)) pe_int) pe_int) pa_nil)) (pe_op op_add (pe_op op_pow pe_int pe_int) pe_int)) (pg_sub (pv 0) pe_int set_list))
  (pss_one (ps_ret (pe_op op_mod (pe_callTy call_int1 (by rfl) (by exact T.z_int) bt_int (pa_cons (pe_op op_fdiv (pe_ix ix_seq (pv 0) pe_int (fun _ _ => rfl)) (pe_op op_pow pe_int pe_int)) pa_nil)) (pv 1)))))),
  (sv_seq (sv_if (et_test (ev_gt (ev_op2 op_ix ev_var ev_int) ev_int)) (sv_seq (sv_asg (ev_mod (ev_call1 op_int (ev_op2 op_ix ev_var ev_int)) ev_int) (g_name (by decide)))
  (sv_seq (sv_asg (ev_fdiv (ev_call1 op_int (ev_op2 op_ix ev_var ev_int)) ev_int) (g_sub ev_var ev_int))
  (sv_ret (ev_mod (ev_call1 op_int ev_var) ev_var)))) sv_next)
  (sv_seq (sv_asg (ev_mod (ev_call1 op_int (ev_add (ev_mul (ev_op2 op_ix ev_var ev_int) ev_int) ev_int)) (ev_add (ev_pow ev_int ev_int) ev_int)) (g_sub ev_var ev_int))
  (sv_ret (ev_mod (ev_call1 op_int (ev_fdiv (ev_op2 op_ix ev_var ev_int) (ev_pow ev_int ev_int))) ev_var)))),
  law__law_draw T⟩)

def W__law_well (_ : Ad) : SpT := fun ts post _ => ∃ (ns : List Int) (k : Int), ts = [.dat (.list (ns.map .int)), tI k] ∧ 0 ≤ k ∧ ns.length ≤ 63 ∧ post .well [none, none]
def W__law_draw (_ : Ad) : SpT := fun ts post _ => ∃ limit : Int, ts = [.well, tI limit] ∧ 0 < limit ∧ ∀ r : Int, 0 ≤ r → r < limit → post (tI r) [some .well, none]
section
variable {P : Program} {w : World} {K : PySem.W.Frag} {mg : Str → Option Value} {base : Heap} {a : Ad}
theorem ok__law_well (T : Tx K mg a) : FnG P w K mg base CX0 1 a.f__law_well a.d__law_well ["script", "k"] (spT K wellO (W__law_well a)) :=
  (ok0__law_well T).map fun vs H Q E h => outWell_ok (spT_mono (fun ts post ep ⟨ns, k, e, h0, h1, hp⟩ => ⟨fun t os => ∃ i j : Int, t = .lst [tI i, tI j] ∧ os = [none, none], ⟨ns, k, e, h0, h1, fun i j => ⟨i, j, rfl, rfl⟩⟩, fun t os ⟨i, j, e1, e2⟩ => ⟨i, j, e1, by rw [e2]; exact hp⟩⟩) vs H Q E h)
theorem ok__law_draw (T : Tx K mg a) : FnG P w K mg base CX0 1 a.f__law_draw a.d__law_draw ["well", "limit"] (spT K wellO (W__law_draw a)) :=
  (ok0__law_draw T).map fun vs H Q E h => inWell_ok (spT_mono (fun ts post ep ⟨limit, e, h0, hp⟩ => ⟨[tI limit], e, rfl, fun i j => ⟨fun t os => ∃ i j r : Int, 0 ≤ r ∧ r < limit ∧ t = tI r ∧ os = [some (.lst [tI i, tI j]), none],
    ⟨i, j, limit, rfl, h0, fun i j r h1 h2 => ⟨i, j, r, h1, h2, rfl, rfl⟩⟩, fun t os ⟨i, j, r, h1, h2, e1, e2⟩ => ⟨i, j, [none], e2, by rw [e1]; exact hp r h1 h2⟩⟩⟩) vs H Q E h)
end
end K64

namespace K64
open PySem L2 Hz
/-- what holds of a Regions and of the list beside it, after at most b calls -/
structure Ok (b : Nat) (n e : Int) (es : List Int) : Prop where
  n1 : 1 ≤ n
  n2 : n ≤ 400
  e0 : 0 ≤ e
  en : e ≤ n
  at_ : ∀ x ∈ es, 0 ≤ x ∧ x ≤ n
  len : es.length ≤ b
theorem Ok.take {b : Nat} {n e s : Int} {es : List Int} (ok : Ok b n e es) (h : 0 ≤ s) (hs : e + s ≤ n) : Ok (b + 1) n (e + s) es :=
  ⟨ok.n1, ok.n2, by have := ok.e0; omega, hs, ok.at_, Nat.le_succ_of_le ok.len⟩
theorem Ok.same {b : Nat} {n e : Int} {es : List Int} (ok : Ok b n e es) : Ok (b + 1) n e es := ⟨ok.n1, ok.n2, ok.e0, ok.en, ok.at_, Nat.le_succ_of_le ok.len⟩
theorem Ok.mark {b : Nat} {n e : Int} {es : List Int} (ok : Ok b n e es) : Ok (b + 1) n e (es ++ [e]) :=
  ⟨ok.n1, ok.n2, ok.e0, ok.en, fun x hx => (List.mem_append.mp hx).elim (ok.at_ x) fun h => by rw [List.mem_singleton.mp h]; exact ⟨ok.e0, ok.en⟩, by rw [List.length_append]; exact Nat.succ_le_succ ok.len⟩
theorem Ok.back {b m : Nat} {n e x : Int} {es : List Int} (ok : Ok b n e es) (h : es[m]? = some x) : Ok (b + 1) n x (es.take m) :=
  have hx := ok.at_ x (List.mem_of_getElem? h)
  ⟨ok.n1, ok.n2, hx.1, hx.2, fun y hy => ok.at_ y (List.mem_of_mem_take hy), by rw [List.length_take]; have := ok.len; omega⟩
abbrev StT (n e : Int) (es : List Int) : T := .lst [tI n, tI e, tL es]
def W__law_step (a : Ad) : SpT := fun ts post _ => ∃ (n e : Int) (es : List Int), ts = [.well, RgT a.C_Regions n e es, StT n e es] ∧ Inv1 fun b : Nat => b < 500 ∧ Ok b n e es ∧
  ∀ (e' : Int) (es' : List Int), Ok (b + 1) n e' es' → post (tBo true) [some .well, some (RgT a.C_Regions n e' es'), some (StT n e' es')]
theorem len__law_step {a : Ad} {ts : List T} {post : T → Rho → Prop} {ep : Addr → T → Rho → Prop} (h : W__law_step a ts post ep) : ts.length = 3 := by
  obtain ⟨n, e, es, rfl, _⟩ := h
  rfl
/-- return repr(regions.take(size) if way < 3 else regions.take(size=size)) == repr(due) .. -/
def t__law_step_76 (K : PySem.W.Frag) (a : Ad) : WS := (sRt (w2 (sEqT false) (w1 sRepr (wIf (bT (wII0 bLt (wVar 3) (wC (.int 3)))) (wMeth a.C_Regions "take" 1 0 (fun us _ => us) (W_Regions_take a) (wVar 1) (aCons (wVar 4) aNil) aNil) (wMeth a.C_Regions "take" 0 1 (fun us zs => us ++ zs) (W_Regions_take a) (wVar 1) aNil (aCons (wVar 4) aNil)))) (w1 sRepr (wVar 5))))
/-- if due is not None: .. -/
def t__law_step_74 (K : PySem.W.Frag) (a : Ad) : WS := (sSq (sIf (bT (wIsN true (wVar 5))) (sAs (wII0 iAdd (w2 sIx (wVar 2) (wC (.int 1))) (wVar 4)) (gIx (wVar 2) (wC (.int 1)))) sNx) (t__law_step_76 K a))
/-- due = state[1] if state[1] + size <= state[0] else None .. -/
def t__law_step_73 (K : PySem.W.Frag) (a : Ad) : WS := (sSq (sAs (wIf (bT (wII0 bLe (wII0 iAdd (w2 sIx (wVar 2) (wC (.int 1))) (wVar 4)) (w2 sIx (wVar 2) (wC (.int 0))))) (w2 sIx (wVar 2) (wC (.int 1))) (wC .none)) (gN 5)) (t__law_step_74 K a))
/-- return repr(regions.mark()) == repr(len(state[2]) - 1) .. -/
def t__law_step_79 (K : PySem.W.Frag) (a : Ad) : WS := (sRt (w2 (sEqT false) (w1 sRepr (wMeth a.C_Regions "mark" 0 0 (fun us _ => us) (W_Regions_mark a) (wVar 1) aNil aNil)) (w1 sRepr (wII0 iSub (w1 sLen (w2 sIx (wVar 2) (wC (.int 2)))) (wC (.int 1))))))
/-- state[2] = state[2] + [state[1]] .. -/
def b__law_step_78 (K : PySem.W.Frag) (a : Ad) : WS := (sSq (sAs (w2 sCat (w2 sIx (wVar 2) (wC (.int 2))) (wLst (aCons (w2 sIx (wVar 2) (wC (.int 1))) aNil))) (gIx (wVar 2) (wC (.int 2)))) (t__law_step_79 K a))
/-- return repr(regions.back(mark) if way == 7 else regions.back(mark=mark)) == repr(due) .. -/
def t__law_step_83 (K : PySem.W.Frag) (a : Ad) : WS := (sRt (w2 (sEqT false) (w1 sRepr (wIf (bT (wEq false (wVar 3) (wC (.int 7)))) (wMeth a.C_Regions "back" 1 0 (fun us _ => us) (W_Regions_back a) (wVar 1) (aCons (wVar 6) aNil) aNil) (wMeth a.C_Regions "back" 0 1 (fun us zs => us ++ zs) (W_Regions_back a) (wVar 1) aNil (aCons (wVar 6) aNil)))) (w1 sRepr (wVar 5))))
/-- state[1], state[2] = (state[2][mark], state[2][:mark]) .. -/
def t__law_step_82 (K : PySem.W.Frag) (a : Ad) : WS := (sSq (sAs (wTupO (aCons (w2 sIx (w2 sIx (wVar 2) (wC (.int 2))) (wVar 6)) (aCons (wSl (w2 sIx (wVar 2) (wC (.int 2))) oNone (oSome (wVar 6))) aNil))) (gTp 2 (gCn (gIx (wVar 2) (wC (.int 1))) (gCn (gIx (wVar 2) (wC (.int 2))) gNl)))) (t__law_step_83 K a))
/-- due = state[1] - state[2][mark] .. -/
def t__law_step_81 (K : PySem.W.Frag) (a : Ad) : WS := (sSq (sAs (wII0 iSub (w2 sIx (wVar 2) (wC (.int 1))) (w2 sIx (w2 sIx (wVar 2) (wC (.int 2))) (wVar 6))) (gN 5)) (t__law_step_82 K a))
/-- mark = _law_draw(well, len(state[2])) .. -/
def t__law_step_80 (K : PySem.W.Frag) (a : Ad) : WS := (sSq (sAs (wCall 2 0 (fun us _ => us) (W__law_draw a) (aCons (wVar 0) (aCons (w1 sLen (w2 sIx (wVar 2) (wC (.int 2)))) aNil)) aNil) (gN 6)) (t__law_step_81 K a))
/-- if way < 7 or state[2] == []: .. -/
def t__law_step_77 (K : PySem.W.Frag) (a : Ad) : WS := (sSq (sIf (bOr (bT (wII0 bLt (wVar 3) (wC (.int 7)))) (bT (wEq false (w2 sIx (wVar 2) (wC (.int 2))) (wLst aNil)))) (sStop (b__law_step_78 K a)) sNx) (t__law_step_80 K a))
/-- if way < 5: .. -/
def t__law_step_71 (K : PySem.W.Frag) (a : Ad) : WS := (sSq (sIf (bT (wII0 bLt (wVar 3) (wC (.int 5)))) (sSq (sAs (wII0 iAdd (wC (.int 1)) (wCall 2 0 (fun us _ => us) (W__law_draw a) (aCons (wVar 0) (aCons (w2 sIx (wLst (aCons (wC (.int 6)) (aCons (wC (.int 40)) (aCons (wC (.int 400)) aNil)))) (wCall 2 0 (fun us _ => us) (W__law_draw a) (aCons (wVar 0) (aCons (wC (.int 3)) aNil)) aNil)) aNil)) aNil)) (gN 4)) (t__law_step_73 K a)) sNx) (t__law_step_77 K a))
def w__law_step (K : PySem.W.Frag) (a : Ad) : WS := (sSq (sAs (wCall 2 0 (fun us _ => us) (W__law_draw a) (aCons (wVar 0) (aCons (wC (.int 9)) aNil)) aNil) (gN 3)) (t__law_step_71 K a))

theorem law__law_step {K : PySem.W.Frag} {mg : Str → Option Value} {a : Ad} (tx : Tx K mg a) : ∀ ts post ep, W__law_step a ts post ep → ts.length = 3 → w__law_step K a (outO [0, 1, 2] 3 post) (outX [0, 1, 2] 3 ep) (startT 7 ts) := by
  rintro ts post ep ⟨n, e, es, rfl, b, hb, ok, hp⟩ -
  have mk : ∀ way : Int, b__law_step_78 K a { nx := t__law_step_80 K a (outO [0, 1, 2] 3 post) (outX [0, 1, 2] 3 ep), rt := (outO [0, 1, 2] 3 post).rt, bk := (outO [0, 1, 2] 3 post).bk, ct := (outO [0, 1, 2] 3 post).ct } (outX [0, 1, 2] 3 ep)
      [some T.well, some (RgT a.C_Regions n e es), some (StT n e es), some (tI way), none, none, none] := fun way => by
    repeat (first | refine And.intro rfl ?_ | apply Exists.intro | refine And.intro (Nat.le_of_ble_eq_true rfl) ?_ | refine And.intro (by decide) ?_ | refine And.intro ⟨_, _, rfl, rfl⟩ ?_ | refine And.intro ⟨_, _, rfl, rfl, rfl⟩ ?_ | refine And.intro (Hz.copy_map _ _) ?_ | refine And.intro (Hz.all_cut (Hz.copy_map _ _)) ?_ | refine And.intro (Hz.pys_map _ _) ?_ | refine And.intro (Hz.real_map _ _) ?_ | refine And.intro Hz.insNo ?_ | refine And.intro (Hz.insOnly tx.i_Regions) ?_ | refine And.intro (Hz.shaped_pl (by ((repeat' (first | exact Hz.pl_int | exact Hz.pl_bool | exact Hz.pl_none | refine Hz.pl_list ?_ | refine Hz.pl_tuple ?_ | exact Hz.plA_nil | refine Hz.plA_cons ?_ ?_ | refine Hz.plA_map (fun _ => ?_) _)); done))) ?_ | refine And.intro (.own _) ?_ | refine And.intro Hz.kit_self ?_ | refine And.intro Hz.notFirst_self ?_ | refine And.intro (show CMul _ _ from .inl ⟨by decide, by decide⟩) ?_ | refine And.intro (show CMul _ _ from .inr ⟨by decide, by decide⟩) ?_ | refine And.intro (show CMod _ _ from (by decide : (0 : Int) < _)) ?_ | refine And.intro (show CDiv _ _ from ⟨by decide, by decide⟩) ?_ | refine And.intro (show CPow _ _ from ⟨by decide, by decide, by decide⟩) ?_ | refine Or.inl (Exists.intro _ (And.intro rfl ?_)) | refine Or.inr (Exists.intro _ (And.intro rfl ?_)) | refine (fun (_ : V) => ?_) | refine (fun (_ : True) => ?_) | simp only [give_dat, give_cst, give_well, pys_nil, pys_consE, py_dat, py_lstE, py_tupE, pys_mapI, pys_mapD, dropsT_nil, dropsT_cons, startT, drop_bor, drop_lz, drop_dat, drop_cst, drop_well, drop_lst, drop_tup, drop_dic, drop_ins, opn_bor, opn_lz, opn_dat, opn_cst, opn_well, opn_lst, opn_tup, opn_dic, opn_ins, cls_bor, cls_lz, cls_dat, cls_cst, cls_well, cls_lst, cls_tup, cls_dic, cls_ins, clsAll_nil, clsAll_some, clsAll_none, Hz.putAt, putc_lst, putc_tup, putc_ins, child_lst, child_tup, child_ins, get_nil, get_cons, put_nil, put_cons, putFT, mask, List.getElem?_cons_zero, List.getElem?_cons_succ, List.set_cons_zero, List.set_cons_succ, Option.join_some, Option.map_some, Option.map_none, Option.bind_some, Option.bind_none, ite_true, ite_false, if_true, if_false, eq_self, Int.reduceToNat, Int.toNat_zero, Int.toNat_one, Int.reduceToNat, List.replicate_zero, List.replicate_succ, List.length_cons, List.length_nil, List.map_cons, List.map_nil, List.cons_append, List.nil_append, Nat.reduceSub, Nat.reduceAdd, Nat.zero_add, fp_Regions_0_n, fp_Regions_1_end, fp_Regions_2_ends, fp_Regions_3_n, fp_Regions_3_end, fp_Regions_3_ends, fp_Regions_3_UinitU, fp_Regions_3_take, fp_Regions_3_mark, fp_Regions_3_back, fp_Regions_3_top, fp_Regions_3_marks, fp_Regions_3_twin, fp_Regions_3_UeqU, fp_Regions_3_UneU] | exact rfl)
    refine ⟨by rw [List.length_map]; have := ok.len; omega, ?_⟩
    repeat (first | refine And.intro rfl ?_ | apply Exists.intro | refine And.intro (Nat.le_of_ble_eq_true rfl) ?_ | refine And.intro (by decide) ?_ | refine And.intro ⟨_, _, rfl, rfl⟩ ?_ | refine And.intro ⟨_, _, rfl, rfl, rfl⟩ ?_ | refine And.intro (Hz.copy_map _ _) ?_ | refine And.intro (Hz.all_cut (Hz.copy_map _ _)) ?_ | refine And.intro (Hz.pys_map _ _) ?_ | refine And.intro (Hz.real_map _ _) ?_ | refine And.intro Hz.insNo ?_ | refine And.intro (Hz.insOnly tx.i_Regions) ?_ | refine And.intro (Hz.shaped_pl (by ((repeat' (first | exact Hz.pl_int | exact Hz.pl_bool | exact Hz.pl_none | refine Hz.pl_list ?_ | refine Hz.pl_tuple ?_ | exact Hz.plA_nil | refine Hz.plA_cons ?_ ?_ | refine Hz.plA_map (fun _ => ?_) _)); done))) ?_ | refine And.intro (.own _) ?_ | refine And.intro Hz.kit_self ?_ | refine And.intro Hz.notFirst_self ?_ | refine And.intro (show CMul _ _ from .inl ⟨by decide, by decide⟩) ?_ | refine And.intro (show CMul _ _ from .inr ⟨by decide, by decide⟩) ?_ | refine And.intro (show CMod _ _ from (by decide : (0 : Int) < _)) ?_ | refine And.intro (show CDiv _ _ from ⟨by decide, by decide⟩) ?_ | refine And.intro (show CPow _ _ from ⟨by decide, by decide, by decide⟩) ?_ | refine Or.inl (Exists.intro _ (And.intro rfl ?_)) | refine Or.inr (Exists.intro _ (And.intro rfl ?_)) | refine (fun (_ : V) => ?_) | refine (fun (_ : True) => ?_) | simp only [give_dat, give_cst, give_well, pys_nil, pys_consE, py_dat, py_lstE, py_tupE, pys_mapI, pys_mapD, dropsT_nil, dropsT_cons, startT, drop_bor, drop_lz, drop_dat, drop_cst, drop_well, drop_lst, drop_tup, drop_dic, drop_ins, opn_bor, opn_lz, opn_dat, opn_cst, opn_well, opn_lst, opn_tup, opn_dic, opn_ins, cls_bor, cls_lz, cls_dat, cls_cst, cls_well, cls_lst, cls_tup, cls_dic, cls_ins, clsAll_nil, clsAll_some, clsAll_none, Hz.putAt, putc_lst, putc_tup, putc_ins, child_lst, child_tup, child_ins, get_nil, get_cons, put_nil, put_cons, putFT, mask, List.getElem?_cons_zero, List.getElem?_cons_succ, List.set_cons_zero, List.set_cons_succ, Option.join_some, Option.map_some, Option.map_none, Option.bind_some, Option.bind_none, ite_true, ite_false, if_true, if_false, eq_self, Int.reduceToNat, Int.toNat_zero, Int.toNat_one, Int.reduceToNat, List.replicate_zero, List.replicate_succ, List.length_cons, List.length_nil, List.map_cons, List.map_nil, List.cons_append, List.nil_append, Nat.reduceSub, Nat.reduceAdd, Nat.zero_add, fp_Regions_0_n, fp_Regions_1_end, fp_Regions_2_ends, fp_Regions_3_n, fp_Regions_3_end, fp_Regions_3_ends, fp_Regions_3_UinitU, fp_Regions_3_take, fp_Regions_3_mark, fp_Regions_3_back, fp_Regions_3_top, fp_Regions_3_marks, fp_Regions_3_twin, fp_Regions_3_UeqU, fp_Regions_3_UneU] | exact rfl)
    refine ⟨by have := ok.len; omega, fun _ => ?_⟩
    repeat (first | refine And.intro rfl ?_ | apply Exists.intro | refine And.intro (Nat.le_of_ble_eq_true rfl) ?_ | refine And.intro (by decide) ?_ | refine And.intro ⟨_, _, rfl, rfl⟩ ?_ | refine And.intro ⟨_, _, rfl, rfl, rfl⟩ ?_ | refine And.intro (Hz.copy_map _ _) ?_ | refine And.intro (Hz.all_cut (Hz.copy_map _ _)) ?_ | refine And.intro (Hz.pys_map _ _) ?_ | refine And.intro (Hz.real_map _ _) ?_ | refine And.intro Hz.insNo ?_ | refine And.intro (Hz.insOnly tx.i_Regions) ?_ | refine And.intro (Hz.shaped_pl (by ((repeat' (first | exact Hz.pl_int | exact Hz.pl_bool | exact Hz.pl_none | refine Hz.pl_list ?_ | refine Hz.pl_tuple ?_ | exact Hz.plA_nil | refine Hz.plA_cons ?_ ?_ | refine Hz.plA_map (fun _ => ?_) _)); done))) ?_ | refine And.intro (.own _) ?_ | refine And.intro Hz.kit_self ?_ | refine And.intro Hz.notFirst_self ?_ | refine And.intro (show CMul _ _ from .inl ⟨by decide, by decide⟩) ?_ | refine And.intro (show CMul _ _ from .inr ⟨by decide, by decide⟩) ?_ | refine And.intro (show CMod _ _ from (by decide : (0 : Int) < _)) ?_ | refine And.intro (show CDiv _ _ from ⟨by decide, by decide⟩) ?_ | refine And.intro (show CPow _ _ from ⟨by decide, by decide, by decide⟩) ?_ | refine Or.inl (Exists.intro _ (And.intro rfl ?_)) | refine Or.inr (Exists.intro _ (And.intro rfl ?_)) | refine (fun (_ : V) => ?_) | refine (fun (_ : True) => ?_) | simp only [give_dat, give_cst, give_well, pys_nil, pys_consE, py_dat, py_lstE, py_tupE, pys_mapI, pys_mapD, dropsT_nil, dropsT_cons, startT, drop_bor, drop_lz, drop_dat, drop_cst, drop_well, drop_lst, drop_tup, drop_dic, drop_ins, opn_bor, opn_lz, opn_dat, opn_cst, opn_well, opn_lst, opn_tup, opn_dic, opn_ins, cls_bor, cls_lz, cls_dat, cls_cst, cls_well, cls_lst, cls_tup, cls_dic, cls_ins, clsAll_nil, clsAll_some, clsAll_none, Hz.putAt, putc_lst, putc_tup, putc_ins, child_lst, child_tup, child_ins, get_nil, get_cons, put_nil, put_cons, putFT, mask, List.getElem?_cons_zero, List.getElem?_cons_succ, List.set_cons_zero, List.set_cons_succ, Option.join_some, Option.map_some, Option.map_none, Option.bind_some, Option.bind_none, ite_true, ite_false, if_true, if_false, eq_self, Int.reduceToNat, Int.toNat_zero, Int.toNat_one, Int.reduceToNat, List.replicate_zero, List.replicate_succ, List.length_cons, List.length_nil, List.map_cons, List.map_nil, List.cons_append, List.nil_append, Nat.reduceSub, Nat.reduceAdd, Nat.zero_add, fp_Regions_0_n, fp_Regions_1_end, fp_Regions_2_ends, fp_Regions_3_n, fp_Regions_3_end, fp_Regions_3_ends, fp_Regions_3_UinitU, fp_Regions_3_take, fp_Regions_3_mark, fp_Regions_3_back, fp_Regions_3_top, fp_Regions_3_marks, fp_Regions_3_twin, fp_Regions_3_UeqU, fp_Regions_3_UneU] | exact rfl)
    refine ⟨rok_int (by have := ok.len; omega), ?_⟩
    repeat (first | refine And.intro rfl ?_ | apply Exists.intro | refine And.intro (Nat.le_of_ble_eq_true rfl) ?_ | refine And.intro (by decide) ?_ | refine And.intro ⟨_, _, rfl, rfl⟩ ?_ | refine And.intro ⟨_, _, rfl, rfl, rfl⟩ ?_ | refine And.intro (Hz.copy_map _ _) ?_ | refine And.intro (Hz.all_cut (Hz.copy_map _ _)) ?_ | refine And.intro (Hz.pys_map _ _) ?_ | refine And.intro (Hz.real_map _ _) ?_ | refine And.intro Hz.insNo ?_ | refine And.intro (Hz.insOnly tx.i_Regions) ?_ | refine And.intro (Hz.shaped_pl (by ((repeat' (first | exact Hz.pl_int | exact Hz.pl_bool | exact Hz.pl_none | refine Hz.pl_list ?_ | refine Hz.pl_tuple ?_ | exact Hz.plA_nil | refine Hz.plA_cons ?_ ?_ | refine Hz.plA_map (fun _ => ?_) _)); done))) ?_ | refine And.intro (.own _) ?_ | refine And.intro Hz.kit_self ?_ | refine And.intro Hz.notFirst_self ?_ | refine And.intro (show CMul _ _ from .inl ⟨by decide, by decide⟩) ?_ | refine And.intro (show CMul _ _ from .inr ⟨by decide, by decide⟩) ?_ | refine And.intro (show CMod _ _ from (by decide : (0 : Int) < _)) ?_ | refine And.intro (show CDiv _ _ from ⟨by decide, by decide⟩) ?_ | refine And.intro (show CPow _ _ from ⟨by decide, by decide, by decide⟩) ?_ | refine Or.inl (Exists.intro _ (And.intro rfl ?_)) | refine Or.inr (Exists.intro _ (And.intro rfl ?_)) | refine (fun (_ : V) => ?_) | refine (fun (_ : True) => ?_) | simp only [give_dat, give_cst, give_well, pys_nil, pys_consE, py_dat, py_lstE, py_tupE, pys_mapI, pys_mapD, dropsT_nil, dropsT_cons, startT, drop_bor, drop_lz, drop_dat, drop_cst, drop_well, drop_lst, drop_tup, drop_dic, drop_ins, opn_bor, opn_lz, opn_dat, opn_cst, opn_well, opn_lst, opn_tup, opn_dic, opn_ins, cls_bor, cls_lz, cls_dat, cls_cst, cls_well, cls_lst, cls_tup, cls_dic, cls_ins, clsAll_nil, clsAll_some, clsAll_none, Hz.putAt, putc_lst, putc_tup, putc_ins, child_lst, child_tup, child_ins, get_nil, get_cons, put_nil, put_cons, putFT, mask, List.getElem?_cons_zero, List.getElem?_cons_succ, List.set_cons_zero, List.set_cons_succ, Option.join_some, Option.map_some, Option.map_none, Option.bind_some, Option.bind_none, ite_true, ite_false, if_true, if_false, eq_self, Int.reduceToNat, Int.toNat_zero, Int.toNat_one, Int.reduceToNat, List.replicate_zero, List.replicate_succ, List.length_cons, List.length_nil, List.map_cons, List.map_nil, List.cons_append, List.nil_append, Nat.reduceSub, Nat.reduceAdd, Nat.zero_add, fp_Regions_0_n, fp_Regions_1_end, fp_Regions_2_ends, fp_Regions_3_n, fp_Regions_3_end, fp_Regions_3_ends, fp_Regions_3_UinitU, fp_Regions_3_take, fp_Regions_3_mark, fp_Regions_3_back, fp_Regions_3_top, fp_Regions_3_marks, fp_Regions_3_twin, fp_Regions_3_UeqU, fp_Regions_3_UneU] | exact rfl)
    have e1 : ((List.map tI es ++ [tI e]).length : Int) - 1 = es.length := by simp
    have e2 : List.map tI es ++ [tI e] = List.map tI (es ++ [e]) := by simp
    rw [show iSub (↑(List.map tI es ++ [tI e]).length) 1 = .int es.length from congrArg PyData.int e1, e2]
    refine ⟨rok_int (by have := ok.len; omega), ?_⟩
    repeat (first | refine And.intro rfl ?_ | apply Exists.intro | refine And.intro (Nat.le_of_ble_eq_true rfl) ?_ | refine And.intro (by decide) ?_ | refine And.intro ⟨_, _, rfl, rfl⟩ ?_ | refine And.intro ⟨_, _, rfl, rfl, rfl⟩ ?_ | refine And.intro (Hz.copy_map _ _) ?_ | refine And.intro (Hz.all_cut (Hz.copy_map _ _)) ?_ | refine And.intro (Hz.pys_map _ _) ?_ | refine And.intro (Hz.real_map _ _) ?_ | refine And.intro Hz.insNo ?_ | refine And.intro (Hz.insOnly tx.i_Regions) ?_ | refine And.intro (Hz.shaped_pl (by ((repeat' (first | exact Hz.pl_int | exact Hz.pl_bool | exact Hz.pl_none | refine Hz.pl_list ?_ | refine Hz.pl_tuple ?_ | exact Hz.plA_nil | refine Hz.plA_cons ?_ ?_ | refine Hz.plA_map (fun _ => ?_) _)); done))) ?_ | refine And.intro (.own _) ?_ | refine And.intro Hz.kit_self ?_ | refine And.intro Hz.notFirst_self ?_ | refine And.intro (show CMul _ _ from .inl ⟨by decide, by decide⟩) ?_ | refine And.intro (show CMul _ _ from .inr ⟨by decide, by decide⟩) ?_ | refine And.intro (show CMod _ _ from (by decide : (0 : Int) < _)) ?_ | refine And.intro (show CDiv _ _ from ⟨by decide, by decide⟩) ?_ | refine And.intro (show CPow _ _ from ⟨by decide, by decide, by decide⟩) ?_ | refine Or.inl (Exists.intro _ (And.intro rfl ?_)) | refine Or.inr (Exists.intro _ (And.intro rfl ?_)) | refine (fun (_ : V) => ?_) | refine (fun (_ : True) => ?_) | simp only [give_dat, give_cst, give_well, pys_nil, pys_consE, py_dat, py_lstE, py_tupE, pys_mapI, pys_mapD, dropsT_nil, dropsT_cons, startT, drop_bor, drop_lz, drop_dat, drop_cst, drop_well, drop_lst, drop_tup, drop_dic, drop_ins, opn_bor, opn_lz, opn_dat, opn_cst, opn_well, opn_lst, opn_tup, opn_dic, opn_ins, cls_bor, cls_lz, cls_dat, cls_cst, cls_well, cls_lst, cls_tup, cls_dic, cls_ins, clsAll_nil, clsAll_some, clsAll_none, Hz.putAt, putc_lst, putc_tup, putc_ins, child_lst, child_tup, child_ins, get_nil, get_cons, put_nil, put_cons, putFT, mask, List.getElem?_cons_zero, List.getElem?_cons_succ, List.set_cons_zero, List.set_cons_succ, Option.join_some, Option.map_some, Option.map_none, Option.bind_some, Option.bind_none, ite_true, ite_false, if_true, if_false, eq_self, Int.reduceToNat, Int.toNat_zero, Int.toNat_one, Int.reduceToNat, List.replicate_zero, List.replicate_succ, List.length_cons, List.length_nil, List.map_cons, List.map_nil, List.cons_append, List.nil_append, Nat.reduceSub, Nat.reduceAdd, Nat.zero_add, fp_Regions_0_n, fp_Regions_1_end, fp_Regions_2_ends, fp_Regions_3_n, fp_Regions_3_end, fp_Regions_3_ends, fp_Regions_3_UinitU, fp_Regions_3_take, fp_Regions_3_mark, fp_Regions_3_back, fp_Regions_3_top, fp_Regions_3_marks, fp_Regions_3_twin, fp_Regions_3_UeqU, fp_Regions_3_UneU] | exact rfl)
    exact hp _ _ ok.mark
  repeat (first | refine And.intro rfl ?_ | apply Exists.intro | refine And.intro (Nat.le_of_ble_eq_true rfl) ?_ | refine And.intro (by decide) ?_ | refine And.intro ⟨_, _, rfl, rfl⟩ ?_ | refine And.intro ⟨_, _, rfl, rfl, rfl⟩ ?_ | refine And.intro (Hz.copy_map _ _) ?_ | refine And.intro (Hz.all_cut (Hz.copy_map _ _)) ?_ | refine And.intro (Hz.pys_map _ _) ?_ | refine And.intro (Hz.real_map _ _) ?_ | refine And.intro Hz.insNo ?_ | refine And.intro (Hz.insOnly tx.i_Regions) ?_ | refine And.intro (Hz.shaped_pl (by ((repeat' (first | exact Hz.pl_int | exact Hz.pl_bool | exact Hz.pl_none | refine Hz.pl_list ?_ | refine Hz.pl_tuple ?_ | exact Hz.plA_nil | refine Hz.plA_cons ?_ ?_ | refine Hz.plA_map (fun _ => ?_) _)); done))) ?_ | refine And.intro (.own _) ?_ | refine And.intro Hz.kit_self ?_ | refine And.intro Hz.notFirst_self ?_ | refine And.intro (show CMul _ _ from .inl ⟨by decide, by decide⟩) ?_ | refine And.intro (show CMul _ _ from .inr ⟨by decide, by decide⟩) ?_ | refine And.intro (show CMod _ _ from (by decide : (0 : Int) < _)) ?_ | refine And.intro (show CDiv _ _ from ⟨by decide, by decide⟩) ?_ | refine And.intro (show CPow _ _ from ⟨by decide, by decide, by decide⟩) ?_ | refine Or.inl (Exists.intro _ (And.intro rfl ?_)) | refine Or.inr (Exists.intro _ (And.intro rfl ?_)) | refine (fun (_ : V) => ?_) | refine (fun (_ : True) => ?_) | simp only [give_dat, give_cst, give_well, pys_nil, pys_consE, py_dat, py_lstE, py_tupE, pys_mapI, pys_mapD, dropsT_nil, dropsT_cons, startT, drop_bor, drop_lz, drop_dat, drop_cst, drop_well, drop_lst, drop_tup, drop_dic, drop_ins, opn_bor, opn_lz, opn_dat, opn_cst, opn_well, opn_lst, opn_tup, opn_dic, opn_ins, cls_bor, cls_lz, cls_dat, cls_cst, cls_well, cls_lst, cls_tup, cls_dic, cls_ins, clsAll_nil, clsAll_some, clsAll_none, Hz.putAt, putc_lst, putc_tup, putc_ins, child_lst, child_tup, child_ins, get_nil, get_cons, put_nil, put_cons, putFT, mask, List.getElem?_cons_zero, List.getElem?_cons_succ, List.set_cons_zero, List.set_cons_succ, Option.join_some, Option.map_some, Option.map_none, Option.bind_some, Option.bind_none, ite_true, ite_false, if_true, if_false, eq_self, Int.reduceToNat, Int.toNat_zero, Int.toNat_one, Int.reduceToNat, List.replicate_zero, List.replicate_succ, List.length_cons, List.length_nil, List.map_cons, List.map_nil, List.cons_append, List.nil_append, Nat.reduceSub, Nat.reduceAdd, Nat.zero_add, fp_Regions_0_n, fp_Regions_1_end, fp_Regions_2_ends, fp_Regions_3_n, fp_Regions_3_end, fp_Regions_3_ends, fp_Regions_3_UinitU, fp_Regions_3_take, fp_Regions_3_mark, fp_Regions_3_back, fp_Regions_3_top, fp_Regions_3_marks, fp_Regions_3_twin, fp_Regions_3_UeqU, fp_Regions_3_UneU] | exact rfl)
  refine fun way w0 w1 _ => ?_
  repeat (first | refine And.intro rfl ?_ | apply Exists.intro | refine And.intro (Nat.le_of_ble_eq_true rfl) ?_ | refine And.intro (by decide) ?_ | refine And.intro ⟨_, _, rfl, rfl⟩ ?_ | refine And.intro ⟨_, _, rfl, rfl, rfl⟩ ?_ | refine And.intro (Hz.copy_map _ _) ?_ | refine And.intro (Hz.all_cut (Hz.copy_map _ _)) ?_ | refine And.intro (Hz.pys_map _ _) ?_ | refine And.intro (Hz.real_map _ _) ?_ | refine And.intro Hz.insNo ?_ | refine And.intro (Hz.insOnly tx.i_Regions) ?_ | refine And.intro (Hz.shaped_pl (by ((repeat' (first | exact Hz.pl_int | exact Hz.pl_bool | exact Hz.pl_none | refine Hz.pl_list ?_ | refine Hz.pl_tuple ?_ | exact Hz.plA_nil | refine Hz.plA_cons ?_ ?_ | refine Hz.plA_map (fun _ => ?_) _)); done))) ?_ | refine And.intro (.own _) ?_ | refine And.intro Hz.kit_self ?_ | refine And.intro Hz.notFirst_self ?_ | refine And.intro (show CMul _ _ from .inl ⟨by decide, by decide⟩) ?_ | refine And.intro (show CMul _ _ from .inr ⟨by decide, by decide⟩) ?_ | refine And.intro (show CMod _ _ from (by decide : (0 : Int) < _)) ?_ | refine And.intro (show CDiv _ _ from ⟨by decide, by decide⟩) ?_ | refine And.intro (show CPow _ _ from ⟨by decide, by decide, by decide⟩) ?_ | refine Or.inl (Exists.intro _ (And.intro rfl ?_)) | refine Or.inr (Exists.intro _ (And.intro rfl ?_)) | refine (fun (_ : V) => ?_) | refine (fun (_ : True) => ?_) | simp only [give_dat, give_cst, give_well, pys_nil, pys_consE, py_dat, py_lstE, py_tupE, pys_mapI, pys_mapD, dropsT_nil, dropsT_cons, startT, drop_bor, drop_lz, drop_dat, drop_cst, drop_well, drop_lst, drop_tup, drop_dic, drop_ins, opn_bor, opn_lz, opn_dat, opn_cst, opn_well, opn_lst, opn_tup, opn_dic, opn_ins, cls_bor, cls_lz, cls_dat, cls_cst, cls_well, cls_lst, cls_tup, cls_dic, cls_ins, clsAll_nil, clsAll_some, clsAll_none, Hz.putAt, putc_lst, putc_tup, putc_ins, child_lst, child_tup, child_ins, get_nil, get_cons, put_nil, put_cons, putFT, mask, List.getElem?_cons_zero, List.getElem?_cons_succ, List.set_cons_zero, List.set_cons_succ, Option.join_some, Option.map_some, Option.map_none, Option.bind_some, Option.bind_none, ite_true, ite_false, if_true, if_false, eq_self, Int.reduceToNat, Int.toNat_zero, Int.toNat_one, Int.reduceToNat, List.replicate_zero, List.replicate_succ, List.length_cons, List.length_nil, List.map_cons, List.map_nil, List.cons_append, List.nil_append, Nat.reduceSub, Nat.reduceAdd, Nat.zero_add, fp_Regions_0_n, fp_Regions_1_end, fp_Regions_2_ends, fp_Regions_3_n, fp_Regions_3_end, fp_Regions_3_ends, fp_Regions_3_UinitU, fp_Regions_3_take, fp_Regions_3_mark, fp_Regions_3_back, fp_Regions_3_top, fp_Regions_3_marks, fp_Regions_3_twin, fp_Regions_3_UeqU, fp_Regions_3_UneU] | exact rfl)
  refine iteD (fun c => ?_) (fun c => ?_)
  · repeat (first | refine And.intro rfl ?_ | apply Exists.intro | refine And.intro (Nat.le_of_ble_eq_true rfl) ?_ | refine And.intro (by decide) ?_ | refine And.intro ⟨_, _, rfl, rfl⟩ ?_ | refine And.intro ⟨_, _, rfl, rfl, rfl⟩ ?_ | refine And.intro (Hz.copy_map _ _) ?_ | refine And.intro (Hz.all_cut (Hz.copy_map _ _)) ?_ | refine And.intro (Hz.pys_map _ _) ?_ | refine And.intro (Hz.real_map _ _) ?_ | refine And.intro Hz.insNo ?_ | refine And.intro (Hz.insOnly tx.i_Regions) ?_ | refine And.intro (Hz.shaped_pl (by ((repeat' (first | exact Hz.pl_int | exact Hz.pl_bool | exact Hz.pl_none | refine Hz.pl_list ?_ | refine Hz.pl_tuple ?_ | exact Hz.plA_nil | refine Hz.plA_cons ?_ ?_ | refine Hz.plA_map (fun _ => ?_) _)); done))) ?_ | refine And.intro (.own _) ?_ | refine And.intro Hz.kit_self ?_ | refine And.intro Hz.notFirst_self ?_ | refine And.intro (show CMul _ _ from .inl ⟨by decide, by decide⟩) ?_ | refine And.intro (show CMul _ _ from .inr ⟨by decide, by decide⟩) ?_ | refine And.intro (show CMod _ _ from (by decide : (0 : Int) < _)) ?_ | refine And.intro (show CDiv _ _ from ⟨by decide, by decide⟩) ?_ | refine And.intro (show CPow _ _ from ⟨by decide, by decide, by decide⟩) ?_ | refine Or.inl (Exists.intro _ (And.intro rfl ?_)) | refine Or.inr (Exists.intro _ (And.intro rfl ?_)) | refine (fun (_ : V) => ?_) | refine (fun (_ : True) => ?_) | simp only [give_dat, give_cst, give_well, pys_nil, pys_consE, py_dat, py_lstE, py_tupE, pys_mapI, pys_mapD, dropsT_nil, dropsT_cons, startT, drop_bor, drop_lz, drop_dat, drop_cst, drop_well, drop_lst, drop_tup, drop_dic, drop_ins, opn_bor, opn_lz, opn_dat, opn_cst, opn_well, opn_lst, opn_tup, opn_dic, opn_ins, cls_bor, cls_lz, cls_dat, cls_cst, cls_well, cls_lst, cls_tup, cls_dic, cls_ins, clsAll_nil, clsAll_some, clsAll_none, Hz.putAt, putc_lst, putc_tup, putc_ins, child_lst, child_tup, child_ins, get_nil, get_cons, put_nil, put_cons, putFT, mask, List.getElem?_cons_zero, List.getElem?_cons_succ, List.set_cons_zero, List.set_cons_succ, Option.join_some, Option.map_some, Option.map_none, Option.bind_some, Option.bind_none, ite_true, ite_false, if_true, if_false, eq_self, Int.reduceToNat, Int.toNat_zero, Int.toNat_one, Int.reduceToNat, List.replicate_zero, List.replicate_succ, List.length_cons, List.length_nil, List.map_cons, List.map_nil, List.cons_append, List.nil_append, Nat.reduceSub, Nat.reduceAdd, Nat.zero_add, fp_Regions_0_n, fp_Regions_1_end, fp_Regions_2_ends, fp_Regions_3_n, fp_Regions_3_end, fp_Regions_3_ends, fp_Regions_3_UinitU, fp_Regions_3_take, fp_Regions_3_mark, fp_Regions_3_back, fp_Regions_3_top, fp_Regions_3_marks, fp_Regions_3_twin, fp_Regions_3_UeqU, fp_Regions_3_UneU] | exact rfl)
    refine fun j j0 j1 _ => ?_
    obtain ⟨l, hl, l0, l1⟩ : ∃ l : Int, [tI 6, tI 40, tI 400][j.toNat]? = some (tI l) ∧ 0 < l ∧ l ≤ 400 := by
      have : j = 0 ∨ j = 1 ∨ j = 2 := by omega
      rcases this with rfl | rfl | rfl
      · exact ⟨6, rfl, by decide, by decide⟩
      · exact ⟨40, rfl, by decide, by decide⟩
      · exact ⟨400, rfl, by decide, by decide⟩
    repeat (first | refine And.intro rfl ?_ | apply Exists.intro | refine And.intro (Nat.le_of_ble_eq_true rfl) ?_ | refine And.intro (by decide) ?_ | refine And.intro ⟨_, _, rfl, rfl⟩ ?_ | refine And.intro ⟨_, _, rfl, rfl, rfl⟩ ?_ | refine And.intro (Hz.copy_map _ _) ?_ | refine And.intro (Hz.all_cut (Hz.copy_map _ _)) ?_ | refine And.intro (Hz.pys_map _ _) ?_ | refine And.intro (Hz.real_map _ _) ?_ | refine And.intro Hz.insNo ?_ | refine And.intro (Hz.insOnly tx.i_Regions) ?_ | refine And.intro (Hz.shaped_pl (by ((repeat' (first | exact Hz.pl_int | exact Hz.pl_bool | exact Hz.pl_none | refine Hz.pl_list ?_ | refine Hz.pl_tuple ?_ | exact Hz.plA_nil | refine Hz.plA_cons ?_ ?_ | refine Hz.plA_map (fun _ => ?_) _)); done))) ?_ | refine And.intro (.own _) ?_ | refine And.intro Hz.kit_self ?_ | refine And.intro Hz.notFirst_self ?_ | refine And.intro (show CMul _ _ from .inl ⟨by decide, by decide⟩) ?_ | refine And.intro (show CMul _ _ from .inr ⟨by decide, by decide⟩) ?_ | refine And.intro (show CMod _ _ from (by decide : (0 : Int) < _)) ?_ | refine And.intro (show CDiv _ _ from ⟨by decide, by decide⟩) ?_ | refine And.intro (show CPow _ _ from ⟨by decide, by decide, by decide⟩) ?_ | refine Or.inl (Exists.intro _ (And.intro rfl ?_)) | refine Or.inr (Exists.intro _ (And.intro rfl ?_)) | refine (fun (_ : V) => ?_) | refine (fun (_ : True) => ?_) | simp only [give_dat, give_cst, give_well, pys_nil, pys_consE, py_dat, py_lstE, py_tupE, pys_mapI, pys_mapD, dropsT_nil, dropsT_cons, startT, drop_bor, drop_lz, drop_dat, drop_cst, drop_well, drop_lst, drop_tup, drop_dic, drop_ins, opn_bor, opn_lz, opn_dat, opn_cst, opn_well, opn_lst, opn_tup, opn_dic, opn_ins, cls_bor, cls_lz, cls_dat, cls_cst, cls_well, cls_lst, cls_tup, cls_dic, cls_ins, clsAll_nil, clsAll_some, clsAll_none, Hz.putAt, putc_lst, putc_tup, putc_ins, child_lst, child_tup, child_ins, get_nil, get_cons, put_nil, put_cons, putFT, mask, List.getElem?_cons_zero, List.getElem?_cons_succ, List.set_cons_zero, List.set_cons_succ, Option.join_some, Option.map_some, Option.map_none, Option.bind_some, Option.bind_none, ite_true, ite_false, if_true, if_false, eq_self, Int.reduceToNat, Int.toNat_zero, Int.toNat_one, Int.reduceToNat, List.replicate_zero, List.replicate_succ, List.length_cons, List.length_nil, List.map_cons, List.map_nil, List.cons_append, List.nil_append, Nat.reduceSub, Nat.reduceAdd, Nat.zero_add, fp_Regions_0_n, fp_Regions_1_end, fp_Regions_2_ends, fp_Regions_3_n, fp_Regions_3_end, fp_Regions_3_ends, fp_Regions_3_UinitU, fp_Regions_3_take, fp_Regions_3_mark, fp_Regions_3_back, fp_Regions_3_top, fp_Regions_3_marks, fp_Regions_3_twin, fp_Regions_3_UeqU, fp_Regions_3_UneU] | exact rfl)
    refine ⟨ixN_of j0 j1, ?_⟩
    refine ⟨hl, ?_⟩
    repeat (first | refine And.intro rfl ?_ | apply Exists.intro | refine And.intro (Nat.le_of_ble_eq_true rfl) ?_ | refine And.intro (by decide) ?_ | refine And.intro ⟨_, _, rfl, rfl⟩ ?_ | refine And.intro ⟨_, _, rfl, rfl, rfl⟩ ?_ | refine And.intro (Hz.copy_map _ _) ?_ | refine And.intro (Hz.all_cut (Hz.copy_map _ _)) ?_ | refine And.intro (Hz.pys_map _ _) ?_ | refine And.intro (Hz.real_map _ _) ?_ | refine And.intro Hz.insNo ?_ | refine And.intro (Hz.insOnly tx.i_Regions) ?_ | refine And.intro (Hz.shaped_pl (by ((repeat' (first | exact Hz.pl_int | exact Hz.pl_bool | exact Hz.pl_none | refine Hz.pl_list ?_ | refine Hz.pl_tuple ?_ | exact Hz.plA_nil | refine Hz.plA_cons ?_ ?_ | refine Hz.plA_map (fun _ => ?_) _)); done))) ?_ | refine And.intro (.own _) ?_ | refine And.intro Hz.kit_self ?_ | refine And.intro Hz.notFirst_self ?_ | refine And.intro (show CMul _ _ from .inl ⟨by decide, by decide⟩) ?_ | refine And.intro (show CMul _ _ from .inr ⟨by decide, by decide⟩) ?_ | refine And.intro (show CMod _ _ from (by decide : (0 : Int) < _)) ?_ | refine And.intro (show CDiv _ _ from ⟨by decide, by decide⟩) ?_ | refine And.intro (show CPow _ _ from ⟨by decide, by decide, by decide⟩) ?_ | refine Or.inl (Exists.intro _ (And.intro rfl ?_)) | refine Or.inr (Exists.intro _ (And.intro rfl ?_)) | refine (fun (_ : V) => ?_) | refine (fun (_ : True) => ?_) | simp only [give_dat, give_cst, give_well, pys_nil, pys_consE, py_dat, py_lstE, py_tupE, pys_mapI, pys_mapD, dropsT_nil, dropsT_cons, startT, drop_bor, drop_lz, drop_dat, drop_cst, drop_well, drop_lst, drop_tup, drop_dic, drop_ins, opn_bor, opn_lz, opn_dat, opn_cst, opn_well, opn_lst, opn_tup, opn_dic, opn_ins, cls_bor, cls_lz, cls_dat, cls_cst, cls_well, cls_lst, cls_tup, cls_dic, cls_ins, clsAll_nil, clsAll_some, clsAll_none, Hz.putAt, putc_lst, putc_tup, putc_ins, child_lst, child_tup, child_ins, get_nil, get_cons, put_nil, put_cons, putFT, mask, List.getElem?_cons_zero, List.getElem?_cons_succ, List.set_cons_zero, List.set_cons_succ, Option.join_some, Option.map_some, Option.map_none, Option.bind_some, Option.bind_none, ite_true, ite_false, if_true, if_false, eq_self, Int.reduceToNat, Int.toNat_zero, Int.toNat_one, Int.reduceToNat, List.replicate_zero, List.replicate_succ, List.length_cons, List.length_nil, List.map_cons, List.map_nil, List.cons_append, List.nil_append, Nat.reduceSub, Nat.reduceAdd, Nat.zero_add, fp_Regions_0_n, fp_Regions_1_end, fp_Regions_2_ends, fp_Regions_3_n, fp_Regions_3_end, fp_Regions_3_ends, fp_Regions_3_UinitU, fp_Regions_3_take, fp_Regions_3_mark, fp_Regions_3_back, fp_Regions_3_top, fp_Regions_3_marks, fp_Regions_3_twin, fp_Regions_3_UeqU, fp_Regions_3_UneU] | exact rfl)
    refine ⟨l0, fun s s0 s1 _ => ?_⟩
    repeat (first | refine And.intro rfl ?_ | apply Exists.intro | refine And.intro (Nat.le_of_ble_eq_true rfl) ?_ | refine And.intro (by decide) ?_ | refine And.intro ⟨_, _, rfl, rfl⟩ ?_ | refine And.intro ⟨_, _, rfl, rfl, rfl⟩ ?_ | refine And.intro (Hz.copy_map _ _) ?_ | refine And.intro (Hz.all_cut (Hz.copy_map _ _)) ?_ | refine And.intro (Hz.pys_map _ _) ?_ | refine And.intro (Hz.real_map _ _) ?_ | refine And.intro Hz.insNo ?_ | refine And.intro (Hz.insOnly tx.i_Regions) ?_ | refine And.intro (Hz.shaped_pl (by ((repeat' (first | exact Hz.pl_int | exact Hz.pl_bool | exact Hz.pl_none | refine Hz.pl_list ?_ | refine Hz.pl_tuple ?_ | exact Hz.plA_nil | refine Hz.plA_cons ?_ ?_ | refine Hz.plA_map (fun _ => ?_) _)); done))) ?_ | refine And.intro (.own _) ?_ | refine And.intro Hz.kit_self ?_ | refine And.intro Hz.notFirst_self ?_ | refine And.intro (show CMul _ _ from .inl ⟨by decide, by decide⟩) ?_ | refine And.intro (show CMul _ _ from .inr ⟨by decide, by decide⟩) ?_ | refine And.intro (show CMod _ _ from (by decide : (0 : Int) < _)) ?_ | refine And.intro (show CDiv _ _ from ⟨by decide, by decide⟩) ?_ | refine And.intro (show CPow _ _ from ⟨by decide, by decide, by decide⟩) ?_ | refine Or.inl (Exists.intro _ (And.intro rfl ?_)) | refine Or.inr (Exists.intro _ (And.intro rfl ?_)) | refine (fun (_ : V) => ?_) | refine (fun (_ : True) => ?_) | simp only [give_dat, give_cst, give_well, pys_nil, pys_consE, py_dat, py_lstE, py_tupE, pys_mapI, pys_mapD, dropsT_nil, dropsT_cons, startT, drop_bor, drop_lz, drop_dat, drop_cst, drop_well, drop_lst, drop_tup, drop_dic, drop_ins, opn_bor, opn_lz, opn_dat, opn_cst, opn_well, opn_lst, opn_tup, opn_dic, opn_ins, cls_bor, cls_lz, cls_dat, cls_cst, cls_well, cls_lst, cls_tup, cls_dic, cls_ins, clsAll_nil, clsAll_some, clsAll_none, Hz.putAt, putc_lst, putc_tup, putc_ins, child_lst, child_tup, child_ins, get_nil, get_cons, put_nil, put_cons, putFT, mask, List.getElem?_cons_zero, List.getElem?_cons_succ, List.set_cons_zero, List.set_cons_succ, Option.join_some, Option.map_some, Option.map_none, Option.bind_some, Option.bind_none, ite_true, ite_false, if_true, if_false, eq_self, Int.reduceToNat, Int.toNat_zero, Int.toNat_one, Int.reduceToNat, List.replicate_zero, List.replicate_succ, List.length_cons, List.length_nil, List.map_cons, List.map_nil, List.cons_append, List.nil_append, Nat.reduceSub, Nat.reduceAdd, Nat.zero_add, fp_Regions_0_n, fp_Regions_1_end, fp_Regions_2_ends, fp_Regions_3_n, fp_Regions_3_end, fp_Regions_3_ends, fp_Regions_3_UinitU, fp_Regions_3_take, fp_Regions_3_mark, fp_Regions_3_back, fp_Regions_3_top, fp_Regions_3_marks, fp_Regions_3_twin, fp_Regions_3_UeqU, fp_Regions_3_UneU] | exact rfl)
    refine iteD (fun c2 => ?_) (fun c2 => ?_)
    · repeat (first | refine And.intro rfl ?_ | apply Exists.intro | refine And.intro (Nat.le_of_ble_eq_true rfl) ?_ | refine And.intro (by decide) ?_ | refine And.intro ⟨_, _, rfl, rfl⟩ ?_ | refine And.intro ⟨_, _, rfl, rfl, rfl⟩ ?_ | refine And.intro (Hz.copy_map _ _) ?_ | refine And.intro (Hz.all_cut (Hz.copy_map _ _)) ?_ | refine And.intro (Hz.pys_map _ _) ?_ | refine And.intro (Hz.real_map _ _) ?_ | refine And.intro Hz.insNo ?_ | refine And.intro (Hz.insOnly tx.i_Regions) ?_ | refine And.intro (Hz.shaped_pl (by ((repeat' (first | exact Hz.pl_int | exact Hz.pl_bool | exact Hz.pl_none | refine Hz.pl_list ?_ | refine Hz.pl_tuple ?_ | exact Hz.plA_nil | refine Hz.plA_cons ?_ ?_ | refine Hz.plA_map (fun _ => ?_) _)); done))) ?_ | refine And.intro (.own _) ?_ | refine And.intro Hz.kit_self ?_ | refine And.intro Hz.notFirst_self ?_ | refine And.intro (show CMul _ _ from .inl ⟨by decide, by decide⟩) ?_ | refine And.intro (show CMul _ _ from .inr ⟨by decide, by decide⟩) ?_ | refine And.intro (show CMod _ _ from (by decide : (0 : Int) < _)) ?_ | refine And.intro (show CDiv _ _ from ⟨by decide, by decide⟩) ?_ | refine And.intro (show CPow _ _ from ⟨by decide, by decide, by decide⟩) ?_ | refine Or.inl (Exists.intro _ (And.intro rfl ?_)) | refine Or.inr (Exists.intro _ (And.intro rfl ?_)) | refine (fun (_ : V) => ?_) | refine (fun (_ : True) => ?_) | simp only [give_dat, give_cst, give_well, pys_nil, pys_consE, py_dat, py_lstE, py_tupE, pys_mapI, pys_mapD, dropsT_nil, dropsT_cons, startT, drop_bor, drop_lz, drop_dat, drop_cst, drop_well, drop_lst, drop_tup, drop_dic, drop_ins, opn_bor, opn_lz, opn_dat, opn_cst, opn_well, opn_lst, opn_tup, opn_dic, opn_ins, cls_bor, cls_lz, cls_dat, cls_cst, cls_well, cls_lst, cls_tup, cls_dic, cls_ins, clsAll_nil, clsAll_some, clsAll_none, Hz.putAt, putc_lst, putc_tup, putc_ins, child_lst, child_tup, child_ins, get_nil, get_cons, put_nil, put_cons, putFT, mask, List.getElem?_cons_zero, List.getElem?_cons_succ, List.set_cons_zero, List.set_cons_succ, Option.join_some, Option.map_some, Option.map_none, Option.bind_some, Option.bind_none, ite_true, ite_false, if_true, if_false, eq_self, Int.reduceToNat, Int.toNat_zero, Int.toNat_one, Int.reduceToNat, List.replicate_zero, List.replicate_succ, List.length_cons, List.length_nil, List.map_cons, List.map_nil, List.cons_append, List.nil_append, Nat.reduceSub, Nat.reduceAdd, Nat.zero_add, fp_Regions_0_n, fp_Regions_1_end, fp_Regions_2_ends, fp_Regions_3_n, fp_Regions_3_end, fp_Regions_3_ends, fp_Regions_3_UinitU, fp_Regions_3_take, fp_Regions_3_mark, fp_Regions_3_back, fp_Regions_3_top, fp_Regions_3_marks, fp_Regions_3_twin, fp_Regions_3_UeqU, fp_Regions_3_UneU] | exact rfl)
      refine iteD (fun c3 => ?_) (fun c3 => ?_)
      · repeat (first | refine And.intro rfl ?_ | apply Exists.intro | refine And.intro (Nat.le_of_ble_eq_true rfl) ?_ | refine And.intro (by decide) ?_ | refine And.intro ⟨_, _, rfl, rfl⟩ ?_ | refine And.intro ⟨_, _, rfl, rfl, rfl⟩ ?_ | refine And.intro (Hz.copy_map _ _) ?_ | refine And.intro (Hz.all_cut (Hz.copy_map _ _)) ?_ | refine And.intro (Hz.pys_map _ _) ?_ | refine And.intro (Hz.real_map _ _) ?_ | refine And.intro Hz.insNo ?_ | refine And.intro (Hz.insOnly tx.i_Regions) ?_ | refine And.intro (Hz.shaped_pl (by ((repeat' (first | exact Hz.pl_int | exact Hz.pl_bool | exact Hz.pl_none | refine Hz.pl_list ?_ | refine Hz.pl_tuple ?_ | exact Hz.plA_nil | refine Hz.plA_cons ?_ ?_ | refine Hz.plA_map (fun _ => ?_) _)); done))) ?_ | refine And.intro (.own _) ?_ | refine And.intro Hz.kit_self ?_ | refine And.intro Hz.notFirst_self ?_ | refine And.intro (show CMul _ _ from .inl ⟨by decide, by decide⟩) ?_ | refine And.intro (show CMul _ _ from .inr ⟨by decide, by decide⟩) ?_ | refine And.intro (show CMod _ _ from (by decide : (0 : Int) < _)) ?_ | refine And.intro (show CDiv _ _ from ⟨by decide, by decide⟩) ?_ | refine And.intro (show CPow _ _ from ⟨by decide, by decide, by decide⟩) ?_ | refine Or.inl (Exists.intro _ (And.intro rfl ?_)) | refine Or.inr (Exists.intro _ (And.intro rfl ?_)) | refine (fun (_ : V) => ?_) | refine (fun (_ : True) => ?_) | simp only [give_dat, give_cst, give_well, pys_nil, pys_consE, py_dat, py_lstE, py_tupE, pys_mapI, pys_mapD, dropsT_nil, dropsT_cons, startT, drop_bor, drop_lz, drop_dat, drop_cst, drop_well, drop_lst, drop_tup, drop_dic, drop_ins, opn_bor, opn_lz, opn_dat, opn_cst, opn_well, opn_lst, opn_tup, opn_dic, opn_ins, cls_bor, cls_lz, cls_dat, cls_cst, cls_well, cls_lst, cls_tup, cls_dic, cls_ins, clsAll_nil, clsAll_some, clsAll_none, Hz.putAt, putc_lst, putc_tup, putc_ins, child_lst, child_tup, child_ins, get_nil, get_cons, put_nil, put_cons, putFT, mask, List.getElem?_cons_zero, List.getElem?_cons_succ, List.set_cons_zero, List.set_cons_succ, Option.join_some, Option.map_some, Option.map_none, Option.bind_some, Option.bind_none, ite_true, ite_false, if_true, if_false, eq_self, Int.reduceToNat, Int.toNat_zero, Int.toNat_one, Int.reduceToNat, List.replicate_zero, List.replicate_succ, List.length_cons, List.length_nil, List.map_cons, List.map_nil, List.cons_append, List.nil_append, Nat.reduceSub, Nat.reduceAdd, Nat.zero_add, fp_Regions_0_n, fp_Regions_1_end, fp_Regions_2_ends, fp_Regions_3_n, fp_Regions_3_end, fp_Regions_3_ends, fp_Regions_3_UinitU, fp_Regions_3_take, fp_Regions_3_mark, fp_Regions_3_back, fp_Regions_3_top, fp_Regions_3_marks, fp_Regions_3_twin, fp_Regions_3_UeqU, fp_Regions_3_UneU] | exact rfl)
        refine ⟨by omega, by omega, fun _ _ => ?_, fun h => by omega⟩
        repeat (first | refine And.intro rfl ?_ | apply Exists.intro | refine And.intro (Nat.le_of_ble_eq_true rfl) ?_ | refine And.intro (by decide) ?_ | refine And.intro ⟨_, _, rfl, rfl⟩ ?_ | refine And.intro ⟨_, _, rfl, rfl, rfl⟩ ?_ | refine And.intro (Hz.copy_map _ _) ?_ | refine And.intro (Hz.all_cut (Hz.copy_map _ _)) ?_ | refine And.intro (Hz.pys_map _ _) ?_ | refine And.intro (Hz.real_map _ _) ?_ | refine And.intro Hz.insNo ?_ | refine And.intro (Hz.insOnly tx.i_Regions) ?_ | refine And.intro (Hz.shaped_pl (by ((repeat' (first | exact Hz.pl_int | exact Hz.pl_bool | exact Hz.pl_none | refine Hz.pl_list ?_ | refine Hz.pl_tuple ?_ | exact Hz.plA_nil | refine Hz.plA_cons ?_ ?_ | refine Hz.plA_map (fun _ => ?_) _)); done))) ?_ | refine And.intro (.own _) ?_ | refine And.intro Hz.kit_self ?_ | refine And.intro Hz.notFirst_self ?_ | refine And.intro (show CMul _ _ from .inl ⟨by decide, by decide⟩) ?_ | refine And.intro (show CMul _ _ from .inr ⟨by decide, by decide⟩) ?_ | refine And.intro (show CMod _ _ from (by decide : (0 : Int) < _)) ?_ | refine And.intro (show CDiv _ _ from ⟨by decide, by decide⟩) ?_ | refine And.intro (show CPow _ _ from ⟨by decide, by decide, by decide⟩) ?_ | refine Or.inl (Exists.intro _ (And.intro rfl ?_)) | refine Or.inr (Exists.intro _ (And.intro rfl ?_)) | refine (fun (_ : V) => ?_) | refine (fun (_ : True) => ?_) | simp only [give_dat, give_cst, give_well, pys_nil, pys_consE, py_dat, py_lstE, py_tupE, pys_mapI, pys_mapD, dropsT_nil, dropsT_cons, startT, drop_bor, drop_lz, drop_dat, drop_cst, drop_well, drop_lst, drop_tup, drop_dic, drop_ins, opn_bor, opn_lz, opn_dat, opn_cst, opn_well, opn_lst, opn_tup, opn_dic, opn_ins, cls_bor, cls_lz, cls_dat, cls_cst, cls_well, cls_lst, cls_tup, cls_dic, cls_ins, clsAll_nil, clsAll_some, clsAll_none, Hz.putAt, putc_lst, putc_tup, putc_ins, child_lst, child_tup, child_ins, get_nil, get_cons, put_nil, put_cons, putFT, mask, List.getElem?_cons_zero, List.getElem?_cons_succ, List.set_cons_zero, List.set_cons_succ, Option.join_some, Option.map_some, Option.map_none, Option.bind_some, Option.bind_none, ite_true, ite_false, if_true, if_false, eq_self, Int.reduceToNat, Int.toNat_zero, Int.toNat_one, Int.reduceToNat, List.replicate_zero, List.replicate_succ, List.length_cons, List.length_nil, List.map_cons, List.map_nil, List.cons_append, List.nil_append, Nat.reduceSub, Nat.reduceAdd, Nat.zero_add, fp_Regions_0_n, fp_Regions_1_end, fp_Regions_2_ends, fp_Regions_3_n, fp_Regions_3_end, fp_Regions_3_ends, fp_Regions_3_UinitU, fp_Regions_3_take, fp_Regions_3_mark, fp_Regions_3_back, fp_Regions_3_top, fp_Regions_3_marks, fp_Regions_3_twin, fp_Regions_3_UeqU, fp_Regions_3_UneU] | exact rfl)
        refine ⟨rok_int (by have := ok.e0; have := ok.en; have := ok.n2; omega), ?_⟩
        repeat (first | refine And.intro rfl ?_ | apply Exists.intro | refine And.intro (Nat.le_of_ble_eq_true rfl) ?_ | refine And.intro (by decide) ?_ | refine And.intro ⟨_, _, rfl, rfl⟩ ?_ | refine And.intro ⟨_, _, rfl, rfl, rfl⟩ ?_ | refine And.intro (Hz.copy_map _ _) ?_ | refine And.intro (Hz.all_cut (Hz.copy_map _ _)) ?_ | refine And.intro (Hz.pys_map _ _) ?_ | refine And.intro (Hz.real_map _ _) ?_ | refine And.intro Hz.insNo ?_ | refine And.intro (Hz.insOnly tx.i_Regions) ?_ | refine And.intro (Hz.shaped_pl (by ((repeat' (first | exact Hz.pl_int | exact Hz.pl_bool | exact Hz.pl_none | refine Hz.pl_list ?_ | refine Hz.pl_tuple ?_ | exact Hz.plA_nil | refine Hz.plA_cons ?_ ?_ | refine Hz.plA_map (fun _ => ?_) _)); done))) ?_ | refine And.intro (.own _) ?_ | refine And.intro Hz.kit_self ?_ | refine And.intro Hz.notFirst_self ?_ | refine And.intro (show CMul _ _ from .inl ⟨by decide, by decide⟩) ?_ | refine And.intro (show CMul _ _ from .inr ⟨by decide, by decide⟩) ?_ | refine And.intro (show CMod _ _ from (by decide : (0 : Int) < _)) ?_ | refine And.intro (show CDiv _ _ from ⟨by decide, by decide⟩) ?_ | refine And.intro (show CPow _ _ from ⟨by decide, by decide, by decide⟩) ?_ | refine Or.inl (Exists.intro _ (And.intro rfl ?_)) | refine Or.inr (Exists.intro _ (And.intro rfl ?_)) | refine (fun (_ : V) => ?_) | refine (fun (_ : True) => ?_) | simp only [give_dat, give_cst, give_well, pys_nil, pys_consE, py_dat, py_lstE, py_tupE, pys_mapI, pys_mapD, dropsT_nil, dropsT_cons, startT, drop_bor, drop_lz, drop_dat, drop_cst, drop_well, drop_lst, drop_tup, drop_dic, drop_ins, opn_bor, opn_lz, opn_dat, opn_cst, opn_well, opn_lst, opn_tup, opn_dic, opn_ins, cls_bor, cls_lz, cls_dat, cls_cst, cls_well, cls_lst, cls_tup, cls_dic, cls_ins, clsAll_nil, clsAll_some, clsAll_none, Hz.putAt, putc_lst, putc_tup, putc_ins, child_lst, child_tup, child_ins, get_nil, get_cons, put_nil, put_cons, putFT, mask, List.getElem?_cons_zero, List.getElem?_cons_succ, List.set_cons_zero, List.set_cons_succ, Option.join_some, Option.map_some, Option.map_none, Option.bind_some, Option.bind_none, ite_true, ite_false, if_true, if_false, eq_self, Int.reduceToNat, Int.toNat_zero, Int.toNat_one, Int.reduceToNat, List.replicate_zero, List.replicate_succ, List.length_cons, List.length_nil, List.map_cons, List.map_nil, List.cons_append, List.nil_append, Nat.reduceSub, Nat.reduceAdd, Nat.zero_add, fp_Regions_0_n, fp_Regions_1_end, fp_Regions_2_ends, fp_Regions_3_n, fp_Regions_3_end, fp_Regions_3_ends, fp_Regions_3_UinitU, fp_Regions_3_take, fp_Regions_3_mark, fp_Regions_3_back, fp_Regions_3_top, fp_Regions_3_marks, fp_Regions_3_twin, fp_Regions_3_UeqU, fp_Regions_3_UneU] | exact rfl)
        refine ⟨rok_int (by have := ok.e0; have := ok.en; have := ok.n2; omega), ?_⟩
        repeat (first | refine And.intro rfl ?_ | apply Exists.intro | refine And.intro (Nat.le_of_ble_eq_true rfl) ?_ | refine And.intro (by decide) ?_ | refine And.intro ⟨_, _, rfl, rfl⟩ ?_ | refine And.intro ⟨_, _, rfl, rfl, rfl⟩ ?_ | refine And.intro (Hz.copy_map _ _) ?_ | refine And.intro (Hz.all_cut (Hz.copy_map _ _)) ?_ | refine And.intro (Hz.pys_map _ _) ?_ | refine And.intro (Hz.real_map _ _) ?_ | refine And.intro Hz.insNo ?_ | refine And.intro (Hz.insOnly tx.i_Regions) ?_ | refine And.intro (Hz.shaped_pl (by ((repeat' (first | exact Hz.pl_int | exact Hz.pl_bool | exact Hz.pl_none | refine Hz.pl_list ?_ | refine Hz.pl_tuple ?_ | exact Hz.plA_nil | refine Hz.plA_cons ?_ ?_ | refine Hz.plA_map (fun _ => ?_) _)); done))) ?_ | refine And.intro (.own _) ?_ | refine And.intro Hz.kit_self ?_ | refine And.intro Hz.notFirst_self ?_ | refine And.intro (show CMul _ _ from .inl ⟨by decide, by decide⟩) ?_ | refine And.intro (show CMul _ _ from .inr ⟨by decide, by decide⟩) ?_ | refine And.intro (show CMod _ _ from (by decide : (0 : Int) < _)) ?_ | refine And.intro (show CDiv _ _ from ⟨by decide, by decide⟩) ?_ | refine And.intro (show CPow _ _ from ⟨by decide, by decide, by decide⟩) ?_ | refine Or.inl (Exists.intro _ (And.intro rfl ?_)) | refine Or.inr (Exists.intro _ (And.intro rfl ?_)) | refine (fun (_ : V) => ?_) | refine (fun (_ : True) => ?_) | simp only [give_dat, give_cst, give_well, pys_nil, pys_consE, py_dat, py_lstE, py_tupE, pys_mapI, pys_mapD, dropsT_nil, dropsT_cons, startT, drop_bor, drop_lz, drop_dat, drop_cst, drop_well, drop_lst, drop_tup, drop_dic, drop_ins, opn_bor, opn_lz, opn_dat, opn_cst, opn_well, opn_lst, opn_tup, opn_dic, opn_ins, cls_bor, cls_lz, cls_dat, cls_cst, cls_well, cls_lst, cls_tup, cls_dic, cls_ins, clsAll_nil, clsAll_some, clsAll_none, Hz.putAt, putc_lst, putc_tup, putc_ins, child_lst, child_tup, child_ins, get_nil, get_cons, put_nil, put_cons, putFT, mask, List.getElem?_cons_zero, List.getElem?_cons_succ, List.set_cons_zero, List.set_cons_succ, Option.join_some, Option.map_some, Option.map_none, Option.bind_some, Option.bind_none, ite_true, ite_false, if_true, if_false, eq_self, Int.reduceToNat, Int.toNat_zero, Int.toNat_one, Int.reduceToNat, List.replicate_zero, List.replicate_succ, List.length_cons, List.length_nil, List.map_cons, List.map_nil, List.cons_append, List.nil_append, Nat.reduceSub, Nat.reduceAdd, Nat.zero_add, fp_Regions_0_n, fp_Regions_1_end, fp_Regions_2_ends, fp_Regions_3_n, fp_Regions_3_end, fp_Regions_3_ends, fp_Regions_3_UinitU, fp_Regions_3_take, fp_Regions_3_mark, fp_Regions_3_back, fp_Regions_3_top, fp_Regions_3_marks, fp_Regions_3_twin, fp_Regions_3_UeqU, fp_Regions_3_UneU] | exact rfl)
        exact hp _ _ (ok.take (s := 1 + s) (by omega) c2)
      · repeat (first | refine And.intro rfl ?_ | apply Exists.intro | refine And.intro (Nat.le_of_ble_eq_true rfl) ?_ | refine And.intro (by decide) ?_ | refine And.intro ⟨_, _, rfl, rfl⟩ ?_ | refine And.intro ⟨_, _, rfl, rfl, rfl⟩ ?_ | refine And.intro (Hz.copy_map _ _) ?_ | refine And.intro (Hz.all_cut (Hz.copy_map _ _)) ?_ | refine And.intro (Hz.pys_map _ _) ?_ | refine And.intro (Hz.real_map _ _) ?_ | refine And.intro Hz.insNo ?_ | refine And.intro (Hz.insOnly tx.i_Regions) ?_ | refine And.intro (Hz.shaped_pl (by ((repeat' (first | exact Hz.pl_int | exact Hz.pl_bool | exact Hz.pl_none | refine Hz.pl_list ?_ | refine Hz.pl_tuple ?_ | exact Hz.plA_nil | refine Hz.plA_cons ?_ ?_ | refine Hz.plA_map (fun _ => ?_) _)); done))) ?_ | refine And.intro (.own _) ?_ | refine And.intro Hz.kit_self ?_ | refine And.intro Hz.notFirst_self ?_ | refine And.intro (show CMul _ _ from .inl ⟨by decide, by decide⟩) ?_ | refine And.intro (show CMul _ _ from .inr ⟨by decide, by decide⟩) ?_ | refine And.intro (show CMod _ _ from (by decide : (0 : Int) < _)) ?_ | refine And.intro (show CDiv _ _ from ⟨by decide, by decide⟩) ?_ | refine And.intro (show CPow _ _ from ⟨by decide, by decide, by decide⟩) ?_ | refine Or.inl (Exists.intro _ (And.intro rfl ?_)) | refine Or.inr (Exists.intro _ (And.intro rfl ?_)) | refine (fun (_ : V) => ?_) | refine (fun (_ : True) => ?_) | simp only [give_dat, give_cst, give_well, pys_nil, pys_consE, py_dat, py_lstE, py_tupE, pys_mapI, pys_mapD, dropsT_nil, dropsT_cons, startT, drop_bor, drop_lz, drop_dat, drop_cst, drop_well, drop_lst, drop_tup, drop_dic, drop_ins, opn_bor, opn_lz, opn_dat, opn_cst, opn_well, opn_lst, opn_tup, opn_dic, opn_ins, cls_bor, cls_lz, cls_dat, cls_cst, cls_well, cls_lst, cls_tup, cls_dic, cls_ins, clsAll_nil, clsAll_some, clsAll_none, Hz.putAt, putc_lst, putc_tup, putc_ins, child_lst, child_tup, child_ins, get_nil, get_cons, put_nil, put_cons, putFT, mask, List.getElem?_cons_zero, List.getElem?_cons_succ, List.set_cons_zero, List.set_cons_succ, Option.join_some, Option.map_some, Option.map_none, Option.bind_some, Option.bind_none, ite_true, ite_false, if_true, if_false, eq_self, Int.reduceToNat, Int.toNat_zero, Int.toNat_one, Int.reduceToNat, List.replicate_zero, List.replicate_succ, List.length_cons, List.length_nil, List.map_cons, List.map_nil, List.cons_append, List.nil_append, Nat.reduceSub, Nat.reduceAdd, Nat.zero_add, fp_Regions_0_n, fp_Regions_1_end, fp_Regions_2_ends, fp_Regions_3_n, fp_Regions_3_end, fp_Regions_3_ends, fp_Regions_3_UinitU, fp_Regions_3_take, fp_Regions_3_mark, fp_Regions_3_back, fp_Regions_3_top, fp_Regions_3_marks, fp_Regions_3_twin, fp_Regions_3_UeqU, fp_Regions_3_UneU] | exact rfl)
        refine ⟨by omega, by omega, fun _ _ => ?_, fun h => by omega⟩
        repeat (first | refine And.intro rfl ?_ | apply Exists.intro | refine And.intro (Nat.le_of_ble_eq_true rfl) ?_ | refine And.intro (by decide) ?_ | refine And.intro ⟨_, _, rfl, rfl⟩ ?_ | refine And.intro ⟨_, _, rfl, rfl, rfl⟩ ?_ | refine And.intro (Hz.copy_map _ _) ?_ | refine And.intro (Hz.all_cut (Hz.copy_map _ _)) ?_ | refine And.intro (Hz.pys_map _ _) ?_ | refine And.intro (Hz.real_map _ _) ?_ | refine And.intro Hz.insNo ?_ | refine And.intro (Hz.insOnly tx.i_Regions) ?_ | refine And.intro (Hz.shaped_pl (by ((repeat' (first | exact Hz.pl_int | exact Hz.pl_bool | exact Hz.pl_none | refine Hz.pl_list ?_ | refine Hz.pl_tuple ?_ | exact Hz.plA_nil | refine Hz.plA_cons ?_ ?_ | refine Hz.plA_map (fun _ => ?_) _)); done))) ?_ | refine And.intro (.own _) ?_ | refine And.intro Hz.kit_self ?_ | refine And.intro Hz.notFirst_self ?_ | refine And.intro (show CMul _ _ from .inl ⟨by decide, by decide⟩) ?_ | refine And.intro (show CMul _ _ from .inr ⟨by decide, by decide⟩) ?_ | refine And.intro (show CMod _ _ from (by decide : (0 : Int) < _)) ?_ | refine And.intro (show CDiv _ _ from ⟨by decide, by decide⟩) ?_ | refine And.intro (show CPow _ _ from ⟨by decide, by decide, by decide⟩) ?_ | refine Or.inl (Exists.intro _ (And.intro rfl ?_)) | refine Or.inr (Exists.intro _ (And.intro rfl ?_)) | refine (fun (_ : V) => ?_) | refine (fun (_ : True) => ?_) | simp only [give_dat, give_cst, give_well, pys_nil, pys_consE, py_dat, py_lstE, py_tupE, pys_mapI, pys_mapD, dropsT_nil, dropsT_cons, startT, drop_bor, drop_lz, drop_dat, drop_cst, drop_well, drop_lst, drop_tup, drop_dic, drop_ins, opn_bor, opn_lz, opn_dat, opn_cst, opn_well, opn_lst, opn_tup, opn_dic, opn_ins, cls_bor, cls_lz, cls_dat, cls_cst, cls_well, cls_lst, cls_tup, cls_dic, cls_ins, clsAll_nil, clsAll_some, clsAll_none, Hz.putAt, putc_lst, putc_tup, putc_ins, child_lst, child_tup, child_ins, get_nil, get_cons, put_nil, put_cons, putFT, mask, List.getElem?_cons_zero, List.getElem?_cons_succ, List.set_cons_zero, List.set_cons_succ, Option.join_some, Option.map_some, Option.map_none, Option.bind_some, Option.bind_none, ite_true, ite_false, if_true, if_false, eq_self, Int.reduceToNat, Int.toNat_zero, Int.toNat_one, Int.reduceToNat, List.replicate_zero, List.replicate_succ, List.length_cons, List.length_nil, List.map_cons, List.map_nil, List.cons_append, List.nil_append, Nat.reduceSub, Nat.reduceAdd, Nat.zero_add, fp_Regions_0_n, fp_Regions_1_end, fp_Regions_2_ends, fp_Regions_3_n, fp_Regions_3_end, fp_Regions_3_ends, fp_Regions_3_UinitU, fp_Regions_3_take, fp_Regions_3_mark, fp_Regions_3_back, fp_Regions_3_top, fp_Regions_3_marks, fp_Regions_3_twin, fp_Regions_3_UeqU, fp_Regions_3_UneU] | exact rfl)
        refine ⟨rok_int (by have := ok.e0; have := ok.en; have := ok.n2; omega), ?_⟩
        repeat (first | refine And.intro rfl ?_ | apply Exists.intro | refine And.intro (Nat.le_of_ble_eq_true rfl) ?_ | refine And.intro (by decide) ?_ | refine And.intro ⟨_, _, rfl, rfl⟩ ?_ | refine And.intro ⟨_, _, rfl, rfl, rfl⟩ ?_ | refine And.intro (Hz.copy_map _ _) ?_ | refine And.intro (Hz.all_cut (Hz.copy_map _ _)) ?_ | refine And.intro (Hz.pys_map _ _) ?_ | refine And.intro (Hz.real_map _ _) ?_ | refine And.intro Hz.insNo ?_ | refine And.intro (Hz.insOnly tx.i_Regions) ?_ | refine And.intro (Hz.shaped_pl (by ((repeat' (first | exact Hz.pl_int | exact Hz.pl_bool | exact Hz.pl_none | refine Hz.pl_list ?_ | refine Hz.pl_tuple ?_ | exact Hz.plA_nil | refine Hz.plA_cons ?_ ?_ | refine Hz.plA_map (fun _ => ?_) _)); done))) ?_ | refine And.intro (.own _) ?_ | refine And.intro Hz.kit_self ?_ | refine And.intro Hz.notFirst_self ?_ | refine And.intro (show CMul _ _ from .inl ⟨by decide, by decide⟩) ?_ | refine And.intro (show CMul _ _ from .inr ⟨by decide, by decide⟩) ?_ | refine And.intro (show CMod _ _ from (by decide : (0 : Int) < _)) ?_ | refine And.intro (show CDiv _ _ from ⟨by decide, by decide⟩) ?_ | refine And.intro (show CPow _ _ from ⟨by decide, by decide, by decide⟩) ?_ | refine Or.inl (Exists.intro _ (And.intro rfl ?_)) | refine Or.inr (Exists.intro _ (And.intro rfl ?_)) | refine (fun (_ : V) => ?_) | refine (fun (_ : True) => ?_) | simp only [give_dat, give_cst, give_well, pys_nil, pys_consE, py_dat, py_lstE, py_tupE, pys_mapI, pys_mapD, dropsT_nil, dropsT_cons, startT, drop_bor, drop_lz, drop_dat, drop_cst, drop_well, drop_lst, drop_tup, drop_dic, drop_ins, opn_bor, opn_lz, opn_dat, opn_cst, opn_well, opn_lst, opn_tup, opn_dic, opn_ins, cls_bor, cls_lz, cls_dat, cls_cst, cls_well, cls_lst, cls_tup, cls_dic, cls_ins, clsAll_nil, clsAll_some, clsAll_none, Hz.putAt, putc_lst, putc_tup, putc_ins, child_lst, child_tup, child_ins, get_nil, get_cons, put_nil, put_cons, putFT, mask, List.getElem?_cons_zero, List.getElem?_cons_succ, List.set_cons_zero, List.set_cons_succ, Option.join_some, Option.map_some, Option.map_none, Option.bind_some, Option.bind_none, ite_true, ite_false, if_true, if_false, eq_self, Int.reduceToNat, Int.toNat_zero, Int.toNat_one, Int.reduceToNat, List.replicate_zero, List.replicate_succ, List.length_cons, List.length_nil, List.map_cons, List.map_nil, List.cons_append, List.nil_append, Nat.reduceSub, Nat.reduceAdd, Nat.zero_add, fp_Regions_0_n, fp_Regions_1_end, fp_Regions_2_ends, fp_Regions_3_n, fp_Regions_3_end, fp_Regions_3_ends, fp_Regions_3_UinitU, fp_Regions_3_take, fp_Regions_3_mark, fp_Regions_3_back, fp_Regions_3_top, fp_Regions_3_marks, fp_Regions_3_twin, fp_Regions_3_UeqU, fp_Regions_3_UneU] | exact rfl)
        refine ⟨rok_int (by have := ok.e0; have := ok.en; have := ok.n2; omega), ?_⟩
        repeat (first | refine And.intro rfl ?_ | apply Exists.intro | refine And.intro (Nat.le_of_ble_eq_true rfl) ?_ | refine And.intro (by decide) ?_ | refine And.intro ⟨_, _, rfl, rfl⟩ ?_ | refine And.intro ⟨_, _, rfl, rfl, rfl⟩ ?_ | refine And.intro (Hz.copy_map _ _) ?_ | refine And.intro (Hz.all_cut (Hz.copy_map _ _)) ?_ | refine And.intro (Hz.pys_map _ _) ?_ | refine And.intro (Hz.real_map _ _) ?_ | refine And.intro Hz.insNo ?_ | refine And.intro (Hz.insOnly tx.i_Regions) ?_ | refine And.intro (Hz.shaped_pl (by ((repeat' (first | exact Hz.pl_int | exact Hz.pl_bool | exact Hz.pl_none | refine Hz.pl_list ?_ | refine Hz.pl_tuple ?_ | exact Hz.plA_nil | refine Hz.plA_cons ?_ ?_ | refine Hz.plA_map (fun _ => ?_) _)); done))) ?_ | refine And.intro (.own _) ?_ | refine And.intro Hz.kit_self ?_ | refine And.intro Hz.notFirst_self ?_ | refine And.intro (show CMul _ _ from .inl ⟨by decide, by decide⟩) ?_ | refine And.intro (show CMul _ _ from .inr ⟨by decide, by decide⟩) ?_ | refine And.intro (show CMod _ _ from (by decide : (0 : Int) < _)) ?_ | refine And.intro (show CDiv _ _ from ⟨by decide, by decide⟩) ?_ | refine And.intro (show CPow _ _ from ⟨by decide, by decide, by decide⟩) ?_ | refine Or.inl (Exists.intro _ (And.intro rfl ?_)) | refine Or.inr (Exists.intro _ (And.intro rfl ?_)) | refine (fun (_ : V) => ?_) | refine (fun (_ : True) => ?_) | simp only [give_dat, give_cst, give_well, pys_nil, pys_consE, py_dat, py_lstE, py_tupE, pys_mapI, pys_mapD, dropsT_nil, dropsT_cons, startT, drop_bor, drop_lz, drop_dat, drop_cst, drop_well, drop_lst, drop_tup, drop_dic, drop_ins, opn_bor, opn_lz, opn_dat, opn_cst, opn_well, opn_lst, opn_tup, opn_dic, opn_ins, cls_bor, cls_lz, cls_dat, cls_cst, cls_well, cls_lst, cls_tup, cls_dic, cls_ins, clsAll_nil, clsAll_some, clsAll_none, Hz.putAt, putc_lst, putc_tup, putc_ins, child_lst, child_tup, child_ins, get_nil, get_cons, put_nil, put_cons, putFT, mask, List.getElem?_cons_zero, List.getElem?_cons_succ, List.set_cons_zero, List.set_cons_succ, Option.join_some, Option.map_some, Option.map_none, Option.bind_some, Option.bind_none, ite_true, ite_false, if_true, if_false, eq_self, Int.reduceToNat, Int.toNat_zero, Int.toNat_one, Int.reduceToNat, List.replicate_zero, List.replicate_succ, List.length_cons, List.length_nil, List.map_cons, List.map_nil, List.cons_append, List.nil_append, Nat.reduceSub, Nat.reduceAdd, Nat.zero_add, fp_Regions_0_n, fp_Regions_1_end, fp_Regions_2_ends, fp_Regions_3_n, fp_Regions_3_end, fp_Regions_3_ends, fp_Regions_3_UinitU, fp_Regions_3_take, fp_Regions_3_mark, fp_Regions_3_back, fp_Regions_3_top, fp_Regions_3_marks, fp_Regions_3_twin, fp_Regions_3_UeqU, fp_Regions_3_UneU] | exact rfl)
        exact hp _ _ (ok.take (s := 1 + s) (by omega) c2)
    · repeat (first | refine And.intro rfl ?_ | apply Exists.intro | refine And.intro (Nat.le_of_ble_eq_true rfl) ?_ | refine And.intro (by decide) ?_ | refine And.intro ⟨_, _, rfl, rfl⟩ ?_ | refine And.intro ⟨_, _, rfl, rfl, rfl⟩ ?_ | refine And.intro (Hz.copy_map _ _) ?_ | refine And.intro (Hz.all_cut (Hz.copy_map _ _)) ?_ | refine And.intro (Hz.pys_map _ _) ?_ | refine And.intro (Hz.real_map _ _) ?_ | refine And.intro Hz.insNo ?_ | refine And.intro (Hz.insOnly tx.i_Regions) ?_ | refine And.intro (Hz.shaped_pl (by ((repeat' (first | exact Hz.pl_int | exact Hz.pl_bool | exact Hz.pl_none | refine Hz.pl_list ?_ | refine Hz.pl_tuple ?_ | exact Hz.plA_nil | refine Hz.plA_cons ?_ ?_ | refine Hz.plA_map (fun _ => ?_) _)); done))) ?_ | refine And.intro (.own _) ?_ | refine And.intro Hz.kit_self ?_ | refine And.intro Hz.notFirst_self ?_ | refine And.intro (show CMul _ _ from .inl ⟨by decide, by decide⟩) ?_ | refine And.intro (show CMul _ _ from .inr ⟨by decide, by decide⟩) ?_ | refine And.intro (show CMod _ _ from (by decide : (0 : Int) < _)) ?_ | refine And.intro (show CDiv _ _ from ⟨by decide, by decide⟩) ?_ | refine And.intro (show CPow _ _ from ⟨by decide, by decide, by decide⟩) ?_ | refine Or.inl (Exists.intro _ (And.intro rfl ?_)) | refine Or.inr (Exists.intro _ (And.intro rfl ?_)) | refine (fun (_ : V) => ?_) | refine (fun (_ : True) => ?_) | simp only [give_dat, give_cst, give_well, pys_nil, pys_consE, py_dat, py_lstE, py_tupE, pys_mapI, pys_mapD, dropsT_nil, dropsT_cons, startT, drop_bor, drop_lz, drop_dat, drop_cst, drop_well, drop_lst, drop_tup, drop_dic, drop_ins, opn_bor, opn_lz, opn_dat, opn_cst, opn_well, opn_lst, opn_tup, opn_dic, opn_ins, cls_bor, cls_lz, cls_dat, cls_cst, cls_well, cls_lst, cls_tup, cls_dic, cls_ins, clsAll_nil, clsAll_some, clsAll_none, Hz.putAt, putc_lst, putc_tup, putc_ins, child_lst, child_tup, child_ins, get_nil, get_cons, put_nil, put_cons, putFT, mask, List.getElem?_cons_zero, List.getElem?_cons_succ, List.set_cons_zero, List.set_cons_succ, Option.join_some, Option.map_some, Option.map_none, Option.bind_some, Option.bind_none, ite_true, ite_false, if_true, if_false, eq_self, Int.reduceToNat, Int.toNat_zero, Int.toNat_one, Int.reduceToNat, List.replicate_zero, List.replicate_succ, List.length_cons, List.length_nil, List.map_cons, List.map_nil, List.cons_append, List.nil_append, Nat.reduceSub, Nat.reduceAdd, Nat.zero_add, fp_Regions_0_n, fp_Regions_1_end, fp_Regions_2_ends, fp_Regions_3_n, fp_Regions_3_end, fp_Regions_3_ends, fp_Regions_3_UinitU, fp_Regions_3_take, fp_Regions_3_mark, fp_Regions_3_back, fp_Regions_3_top, fp_Regions_3_marks, fp_Regions_3_twin, fp_Regions_3_UeqU, fp_Regions_3_UneU] | exact rfl)
      refine iteD (fun c3 => ?_) (fun c3 => ?_)
      · repeat (first | refine And.intro rfl ?_ | apply Exists.intro | refine And.intro (Nat.le_of_ble_eq_true rfl) ?_ | refine And.intro (by decide) ?_ | refine And.intro ⟨_, _, rfl, rfl⟩ ?_ | refine And.intro ⟨_, _, rfl, rfl, rfl⟩ ?_ | refine And.intro (Hz.copy_map _ _) ?_ | refine And.intro (Hz.all_cut (Hz.copy_map _ _)) ?_ | refine And.intro (Hz.pys_map _ _) ?_ | refine And.intro (Hz.real_map _ _) ?_ | refine And.intro Hz.insNo ?_ | refine And.intro (Hz.insOnly tx.i_Regions) ?_ | refine And.intro (Hz.shaped_pl (by ((repeat' (first | exact Hz.pl_int | exact Hz.pl_bool | exact Hz.pl_none | refine Hz.pl_list ?_ | refine Hz.pl_tuple ?_ | exact Hz.plA_nil | refine Hz.plA_cons ?_ ?_ | refine Hz.plA_map (fun _ => ?_) _)); done))) ?_ | refine And.intro (.own _) ?_ | refine And.intro Hz.kit_self ?_ | refine And.intro Hz.notFirst_self ?_ | refine And.intro (show CMul _ _ from .inl ⟨by decide, by decide⟩) ?_ | refine And.intro (show CMul _ _ from .inr ⟨by decide, by decide⟩) ?_ | refine And.intro (show CMod _ _ from (by decide : (0 : Int) < _)) ?_ | refine And.intro (show CDiv _ _ from ⟨by decide, by decide⟩) ?_ | refine And.intro (show CPow _ _ from ⟨by decide, by decide, by decide⟩) ?_ | refine Or.inl (Exists.intro _ (And.intro rfl ?_)) | refine Or.inr (Exists.intro _ (And.intro rfl ?_)) | refine (fun (_ : V) => ?_) | refine (fun (_ : True) => ?_) | simp only [give_dat, give_cst, give_well, pys_nil, pys_consE, py_dat, py_lstE, py_tupE, pys_mapI, pys_mapD, dropsT_nil, dropsT_cons, startT, drop_bor, drop_lz, drop_dat, drop_cst, drop_well, drop_lst, drop_tup, drop_dic, drop_ins, opn_bor, opn_lz, opn_dat, opn_cst, opn_well, opn_lst, opn_tup, opn_dic, opn_ins, cls_bor, cls_lz, cls_dat, cls_cst, cls_well, cls_lst, cls_tup, cls_dic, cls_ins, clsAll_nil, clsAll_some, clsAll_none, Hz.putAt, putc_lst, putc_tup, putc_ins, child_lst, child_tup, child_ins, get_nil, get_cons, put_nil, put_cons, putFT, mask, List.getElem?_cons_zero, List.getElem?_cons_succ, List.set_cons_zero, List.set_cons_succ, Option.join_some, Option.map_some, Option.map_none, Option.bind_some, Option.bind_none, ite_true, ite_false, if_true, if_false, eq_self, Int.reduceToNat, Int.toNat_zero, Int.toNat_one, Int.reduceToNat, List.replicate_zero, List.replicate_succ, List.length_cons, List.length_nil, List.map_cons, List.map_nil, List.cons_append, List.nil_append, Nat.reduceSub, Nat.reduceAdd, Nat.zero_add, fp_Regions_0_n, fp_Regions_1_end, fp_Regions_2_ends, fp_Regions_3_n, fp_Regions_3_end, fp_Regions_3_ends, fp_Regions_3_UinitU, fp_Regions_3_take, fp_Regions_3_mark, fp_Regions_3_back, fp_Regions_3_top, fp_Regions_3_marks, fp_Regions_3_twin, fp_Regions_3_UeqU, fp_Regions_3_UneU] | exact rfl)
        refine ⟨by omega, by omega, fun h => by omega, fun _ _ => ?_⟩
        repeat (first | refine And.intro rfl ?_ | apply Exists.intro | refine And.intro (Nat.le_of_ble_eq_true rfl) ?_ | refine And.intro (by decide) ?_ | refine And.intro ⟨_, _, rfl, rfl⟩ ?_ | refine And.intro ⟨_, _, rfl, rfl, rfl⟩ ?_ | refine And.intro (Hz.copy_map _ _) ?_ | refine And.intro (Hz.all_cut (Hz.copy_map _ _)) ?_ | refine And.intro (Hz.pys_map _ _) ?_ | refine And.intro (Hz.real_map _ _) ?_ | refine And.intro Hz.insNo ?_ | refine And.intro (Hz.insOnly tx.i_Regions) ?_ | refine And.intro (Hz.shaped_pl (by ((repeat' (first | exact Hz.pl_int | exact Hz.pl_bool | exact Hz.pl_none | refine Hz.pl_list ?_ | refine Hz.pl_tuple ?_ | exact Hz.plA_nil | refine Hz.plA_cons ?_ ?_ | refine Hz.plA_map (fun _ => ?_) _)); done))) ?_ | refine And.intro (.own _) ?_ | refine And.intro Hz.kit_self ?_ | refine And.intro Hz.notFirst_self ?_ | refine And.intro (show CMul _ _ from .inl ⟨by decide, by decide⟩) ?_ | refine And.intro (show CMul _ _ from .inr ⟨by decide, by decide⟩) ?_ | refine And.intro (show CMod _ _ from (by decide : (0 : Int) < _)) ?_ | refine And.intro (show CDiv _ _ from ⟨by decide, by decide⟩) ?_ | refine And.intro (show CPow _ _ from ⟨by decide, by decide, by decide⟩) ?_ | refine Or.inl (Exists.intro _ (And.intro rfl ?_)) | refine Or.inr (Exists.intro _ (And.intro rfl ?_)) | refine (fun (_ : V) => ?_) | refine (fun (_ : True) => ?_) | simp only [give_dat, give_cst, give_well, pys_nil, pys_consE, py_dat, py_lstE, py_tupE, pys_mapI, pys_mapD, dropsT_nil, dropsT_cons, startT, drop_bor, drop_lz, drop_dat, drop_cst, drop_well, drop_lst, drop_tup, drop_dic, drop_ins, opn_bor, opn_lz, opn_dat, opn_cst, opn_well, opn_lst, opn_tup, opn_dic, opn_ins, cls_bor, cls_lz, cls_dat, cls_cst, cls_well, cls_lst, cls_tup, cls_dic, cls_ins, clsAll_nil, clsAll_some, clsAll_none, Hz.putAt, putc_lst, putc_tup, putc_ins, child_lst, child_tup, child_ins, get_nil, get_cons, put_nil, put_cons, putFT, mask, List.getElem?_cons_zero, List.getElem?_cons_succ, List.set_cons_zero, List.set_cons_succ, Option.join_some, Option.map_some, Option.map_none, Option.bind_some, Option.bind_none, ite_true, ite_false, if_true, if_false, eq_self, Int.reduceToNat, Int.toNat_zero, Int.toNat_one, Int.reduceToNat, List.replicate_zero, List.replicate_succ, List.length_cons, List.length_nil, List.map_cons, List.map_nil, List.cons_append, List.nil_append, Nat.reduceSub, Nat.reduceAdd, Nat.zero_add, fp_Regions_0_n, fp_Regions_1_end, fp_Regions_2_ends, fp_Regions_3_n, fp_Regions_3_end, fp_Regions_3_ends, fp_Regions_3_UinitU, fp_Regions_3_take, fp_Regions_3_mark, fp_Regions_3_back, fp_Regions_3_top, fp_Regions_3_marks, fp_Regions_3_twin, fp_Regions_3_UeqU, fp_Regions_3_UneU] | exact rfl)
        refine ⟨rok_none, ?_⟩
        repeat (first | refine And.intro rfl ?_ | apply Exists.intro | refine And.intro (Nat.le_of_ble_eq_true rfl) ?_ | refine And.intro (by decide) ?_ | refine And.intro ⟨_, _, rfl, rfl⟩ ?_ | refine And.intro ⟨_, _, rfl, rfl, rfl⟩ ?_ | refine And.intro (Hz.copy_map _ _) ?_ | refine And.intro (Hz.all_cut (Hz.copy_map _ _)) ?_ | refine And.intro (Hz.pys_map _ _) ?_ | refine And.intro (Hz.real_map _ _) ?_ | refine And.intro Hz.insNo ?_ | refine And.intro (Hz.insOnly tx.i_Regions) ?_ | refine And.intro (Hz.shaped_pl (by ((repeat' (first | exact Hz.pl_int | exact Hz.pl_bool | exact Hz.pl_none | refine Hz.pl_list ?_ | refine Hz.pl_tuple ?_ | exact Hz.plA_nil | refine Hz.plA_cons ?_ ?_ | refine Hz.plA_map (fun _ => ?_) _)); done))) ?_ | refine And.intro (.own _) ?_ | refine And.intro Hz.kit_self ?_ | refine And.intro Hz.notFirst_self ?_ | refine And.intro (show CMul _ _ from .inl ⟨by decide, by decide⟩) ?_ | refine And.intro (show CMul _ _ from .inr ⟨by decide, by decide⟩) ?_ | refine And.intro (show CMod _ _ from (by decide : (0 : Int) < _)) ?_ | refine And.intro (show CDiv _ _ from ⟨by decide, by decide⟩) ?_ | refine And.intro (show CPow _ _ from ⟨by decide, by decide, by decide⟩) ?_ | refine Or.inl (Exists.intro _ (And.intro rfl ?_)) | refine Or.inr (Exists.intro _ (And.intro rfl ?_)) | refine (fun (_ : V) => ?_) | refine (fun (_ : True) => ?_) | simp only [give_dat, give_cst, give_well, pys_nil, pys_consE, py_dat, py_lstE, py_tupE, pys_mapI, pys_mapD, dropsT_nil, dropsT_cons, startT, drop_bor, drop_lz, drop_dat, drop_cst, drop_well, drop_lst, drop_tup, drop_dic, drop_ins, opn_bor, opn_lz, opn_dat, opn_cst, opn_well, opn_lst, opn_tup, opn_dic, opn_ins, cls_bor, cls_lz, cls_dat, cls_cst, cls_well, cls_lst, cls_tup, cls_dic, cls_ins, clsAll_nil, clsAll_some, clsAll_none, Hz.putAt, putc_lst, putc_tup, putc_ins, child_lst, child_tup, child_ins, get_nil, get_cons, put_nil, put_cons, putFT, mask, List.getElem?_cons_zero, List.getElem?_cons_succ, List.set_cons_zero, List.set_cons_succ, Option.join_some, Option.map_some, Option.map_none, Option.bind_some, Option.bind_none, ite_true, ite_false, if_true, if_false, eq_self, Int.reduceToNat, Int.toNat_zero, Int.toNat_one, Int.reduceToNat, List.replicate_zero, List.replicate_succ, List.length_cons, List.length_nil, List.map_cons, List.map_nil, List.cons_append, List.nil_append, Nat.reduceSub, Nat.reduceAdd, Nat.zero_add, fp_Regions_0_n, fp_Regions_1_end, fp_Regions_2_ends, fp_Regions_3_n, fp_Regions_3_end, fp_Regions_3_ends, fp_Regions_3_UinitU, fp_Regions_3_take, fp_Regions_3_mark, fp_Regions_3_back, fp_Regions_3_top, fp_Regions_3_marks, fp_Regions_3_twin, fp_Regions_3_UeqU, fp_Regions_3_UneU] | exact rfl)
        refine ⟨rok_none, ?_⟩
        repeat (first | refine And.intro rfl ?_ | apply Exists.intro | refine And.intro (Nat.le_of_ble_eq_true rfl) ?_ | refine And.intro (by decide) ?_ | refine And.intro ⟨_, _, rfl, rfl⟩ ?_ | refine And.intro ⟨_, _, rfl, rfl, rfl⟩ ?_ | refine And.intro (Hz.copy_map _ _) ?_ | refine And.intro (Hz.all_cut (Hz.copy_map _ _)) ?_ | refine And.intro (Hz.pys_map _ _) ?_ | refine And.intro (Hz.real_map _ _) ?_ | refine And.intro Hz.insNo ?_ | refine And.intro (Hz.insOnly tx.i_Regions) ?_ | refine And.intro (Hz.shaped_pl (by ((repeat' (first | exact Hz.pl_int | exact Hz.pl_bool | exact Hz.pl_none | refine Hz.pl_list ?_ | refine Hz.pl_tuple ?_ | exact Hz.plA_nil | refine Hz.plA_cons ?_ ?_ | refine Hz.plA_map (fun _ => ?_) _)); done))) ?_ | refine And.intro (.own _) ?_ | refine And.intro Hz.kit_self ?_ | refine And.intro Hz.notFirst_self ?_ | refine And.intro (show CMul _ _ from .inl ⟨by decide, by decide⟩) ?_ | refine And.intro (show CMul _ _ from .inr ⟨by decide, by decide⟩) ?_ | refine And.intro (show CMod _ _ from (by decide : (0 : Int) < _)) ?_ | refine And.intro (show CDiv _ _ from ⟨by decide, by decide⟩) ?_ | refine And.intro (show CPow _ _ from ⟨by decide, by decide, by decide⟩) ?_ | refine Or.inl (Exists.intro _ (And.intro rfl ?_)) | refine Or.inr (Exists.intro _ (And.intro rfl ?_)) | refine (fun (_ : V) => ?_) | refine (fun (_ : True) => ?_) | simp only [give_dat, give_cst, give_well, pys_nil, pys_consE, py_dat, py_lstE, py_tupE, pys_mapI, pys_mapD, dropsT_nil, dropsT_cons, startT, drop_bor, drop_lz, drop_dat, drop_cst, drop_well, drop_lst, drop_tup, drop_dic, drop_ins, opn_bor, opn_lz, opn_dat, opn_cst, opn_well, opn_lst, opn_tup, opn_dic, opn_ins, cls_bor, cls_lz, cls_dat, cls_cst, cls_well, cls_lst, cls_tup, cls_dic, cls_ins, clsAll_nil, clsAll_some, clsAll_none, Hz.putAt, putc_lst, putc_tup, putc_ins, child_lst, child_tup, child_ins, get_nil, get_cons, put_nil, put_cons, putFT, mask, List.getElem?_cons_zero, List.getElem?_cons_succ, List.set_cons_zero, List.set_cons_succ, Option.join_some, Option.map_some, Option.map_none, Option.bind_some, Option.bind_none, ite_true, ite_false, if_true, if_false, eq_self, Int.reduceToNat, Int.toNat_zero, Int.toNat_one, Int.reduceToNat, List.replicate_zero, List.replicate_succ, List.length_cons, List.length_nil, List.map_cons, List.map_nil, List.cons_append, List.nil_append, Nat.reduceSub, Nat.reduceAdd, Nat.zero_add, fp_Regions_0_n, fp_Regions_1_end, fp_Regions_2_ends, fp_Regions_3_n, fp_Regions_3_end, fp_Regions_3_ends, fp_Regions_3_UinitU, fp_Regions_3_take, fp_Regions_3_mark, fp_Regions_3_back, fp_Regions_3_top, fp_Regions_3_marks, fp_Regions_3_twin, fp_Regions_3_UeqU, fp_Regions_3_UneU] | exact rfl)
        exact hp _ _ ok.same
      · repeat (first | refine And.intro rfl ?_ | apply Exists.intro | refine And.intro (Nat.le_of_ble_eq_true rfl) ?_ | refine And.intro (by decide) ?_ | refine And.intro ⟨_, _, rfl, rfl⟩ ?_ | refine And.intro ⟨_, _, rfl, rfl, rfl⟩ ?_ | refine And.intro (Hz.copy_map _ _) ?_ | refine And.intro (Hz.all_cut (Hz.copy_map _ _)) ?_ | refine And.intro (Hz.pys_map _ _) ?_ | refine And.intro (Hz.real_map _ _) ?_ | refine And.intro Hz.insNo ?_ | refine And.intro (Hz.insOnly tx.i_Regions) ?_ | refine And.intro (Hz.shaped_pl (by ((repeat' (first | exact Hz.pl_int | exact Hz.pl_bool | exact Hz.pl_none | refine Hz.pl_list ?_ | refine Hz.pl_tuple ?_ | exact Hz.plA_nil | refine Hz.plA_cons ?_ ?_ | refine Hz.plA_map (fun _ => ?_) _)); done))) ?_ | refine And.intro (.own _) ?_ | refine And.intro Hz.kit_self ?_ | refine And.intro Hz.notFirst_self ?_ | refine And.intro (show CMul _ _ from .inl ⟨by decide, by decide⟩) ?_ | refine And.intro (show CMul _ _ from .inr ⟨by decide, by decide⟩) ?_ | refine And.intro (show CMod _ _ from (by decide : (0 : Int) < _)) ?_ | refine And.intro (show CDiv _ _ from ⟨by decide, by decide⟩) ?_ | refine And.intro (show CPow _ _ from ⟨by decide, by decide, by decide⟩) ?_ | refine Or.inl (Exists.intro _ (And.intro rfl ?_)) | refine Or.inr (Exists.intro _ (And.intro rfl ?_)) | refine (fun (_ : V) => ?_) | refine (fun (_ : True) => ?_) | simp only [give_dat, give_cst, give_well, pys_nil, pys_consE, py_dat, py_lstE, py_tupE, pys_mapI, pys_mapD, dropsT_nil, dropsT_cons, startT, drop_bor, drop_lz, drop_dat, drop_cst, drop_well, drop_lst, drop_tup, drop_dic, drop_ins, opn_bor, opn_lz, opn_dat, opn_cst, opn_well, opn_lst, opn_tup, opn_dic, opn_ins, cls_bor, cls_lz, cls_dat, cls_cst, cls_well, cls_lst, cls_tup, cls_dic, cls_ins, clsAll_nil, clsAll_some, clsAll_none, Hz.putAt, putc_lst, putc_tup, putc_ins, child_lst, child_tup, child_ins, get_nil, get_cons, put_nil, put_cons, putFT, mask, List.getElem?_cons_zero, List.getElem?_cons_succ, List.set_cons_zero, List.set_cons_succ, Option.join_some, Option.map_some, Option.map_none, Option.bind_some, Option.bind_none, ite_true, ite_false, if_true, if_false, eq_self, Int.reduceToNat, Int.toNat_zero, Int.toNat_one, Int.reduceToNat, List.replicate_zero, List.replicate_succ, List.length_cons, List.length_nil, List.map_cons, List.map_nil, List.cons_append, List.nil_append, Nat.reduceSub, Nat.reduceAdd, Nat.zero_add, fp_Regions_0_n, fp_Regions_1_end, fp_Regions_2_ends, fp_Regions_3_n, fp_Regions_3_end, fp_Regions_3_ends, fp_Regions_3_UinitU, fp_Regions_3_take, fp_Regions_3_mark, fp_Regions_3_back, fp_Regions_3_top, fp_Regions_3_marks, fp_Regions_3_twin, fp_Regions_3_UeqU, fp_Regions_3_UneU] | exact rfl)
        refine ⟨by omega, by omega, fun h => by omega, fun _ _ => ?_⟩
        repeat (first | refine And.intro rfl ?_ | apply Exists.intro | refine And.intro (Nat.le_of_ble_eq_true rfl) ?_ | refine And.intro (by decide) ?_ | refine And.intro ⟨_, _, rfl, rfl⟩ ?_ | refine And.intro ⟨_, _, rfl, rfl, rfl⟩ ?_ | refine And.intro (Hz.copy_map _ _) ?_ | refine And.intro (Hz.all_cut (Hz.copy_map _ _)) ?_ | refine And.intro (Hz.pys_map _ _) ?_ | refine And.intro (Hz.real_map _ _) ?_ | refine And.intro Hz.insNo ?_ | refine And.intro (Hz.insOnly tx.i_Regions) ?_ | refine And.intro (Hz.shaped_pl (by ((repeat' (first | exact Hz.pl_int | exact Hz.pl_bool | exact Hz.pl_none | refine Hz.pl_list ?_ | refine Hz.pl_tuple ?_ | exact Hz.plA_nil | refine Hz.plA_cons ?_ ?_ | refine Hz.plA_map (fun _ => ?_) _)); done))) ?_ | refine And.intro (.own _) ?_ | refine And.intro Hz.kit_self ?_ | refine And.intro Hz.notFirst_self ?_ | refine And.intro (show CMul _ _ from .inl ⟨by decide, by decide⟩) ?_ | refine And.intro (show CMul _ _ from .inr ⟨by decide, by decide⟩) ?_ | refine And.intro (show CMod _ _ from (by decide : (0 : Int) < _)) ?_ | refine And.intro (show CDiv _ _ from ⟨by decide, by decide⟩) ?_ | refine And.intro (show CPow _ _ from ⟨by decide, by decide, by decide⟩) ?_ | refine Or.inl (Exists.intro _ (And.intro rfl ?_)) | refine Or.inr (Exists.intro _ (And.intro rfl ?_)) | refine (fun (_ : V) => ?_) | refine (fun (_ : True) => ?_) | simp only [give_dat, give_cst, give_well, pys_nil, pys_consE, py_dat, py_lstE, py_tupE, pys_mapI, pys_mapD, dropsT_nil, dropsT_cons, startT, drop_bor, drop_lz, drop_dat, drop_cst, drop_well, drop_lst, drop_tup, drop_dic, drop_ins, opn_bor, opn_lz, opn_dat, opn_cst, opn_well, opn_lst, opn_tup, opn_dic, opn_ins, cls_bor, cls_lz, cls_dat, cls_cst, cls_well, cls_lst, cls_tup, cls_dic, cls_ins, clsAll_nil, clsAll_some, clsAll_none, Hz.putAt, putc_lst, putc_tup, putc_ins, child_lst, child_tup, child_ins, get_nil, get_cons, put_nil, put_cons, putFT, mask, List.getElem?_cons_zero, List.getElem?_cons_succ, List.set_cons_zero, List.set_cons_succ, Option.join_some, Option.map_some, Option.map_none, Option.bind_some, Option.bind_none, ite_true, ite_false, if_true, if_false, eq_self, Int.reduceToNat, Int.toNat_zero, Int.toNat_one, Int.reduceToNat, List.replicate_zero, List.replicate_succ, List.length_cons, List.length_nil, List.map_cons, List.map_nil, List.cons_append, List.nil_append, Nat.reduceSub, Nat.reduceAdd, Nat.zero_add, fp_Regions_0_n, fp_Regions_1_end, fp_Regions_2_ends, fp_Regions_3_n, fp_Regions_3_end, fp_Regions_3_ends, fp_Regions_3_UinitU, fp_Regions_3_take, fp_Regions_3_mark, fp_Regions_3_back, fp_Regions_3_top, fp_Regions_3_marks, fp_Regions_3_twin, fp_Regions_3_UeqU, fp_Regions_3_UneU] | exact rfl)
        refine ⟨rok_none, ?_⟩
        repeat (first | refine And.intro rfl ?_ | apply Exists.intro | refine And.intro (Nat.le_of_ble_eq_true rfl) ?_ | refine And.intro (by decide) ?_ | refine And.intro ⟨_, _, rfl, rfl⟩ ?_ | refine And.intro ⟨_, _, rfl, rfl, rfl⟩ ?_ | refine And.intro (Hz.copy_map _ _) ?_ | refine And.intro (Hz.all_cut (Hz.copy_map _ _)) ?_ | refine And.intro (Hz.pys_map _ _) ?_ | refine And.intro (Hz.real_map _ _) ?_ | refine And.intro Hz.insNo ?_ | refine And.intro (Hz.insOnly tx.i_Regions) ?_ | refine And.intro (Hz.shaped_pl (by ((repeat' (first | exact Hz.pl_int | exact Hz.pl_bool | exact Hz.pl_none | refine Hz.pl_list ?_ | refine Hz.pl_tuple ?_ | exact Hz.plA_nil | refine Hz.plA_cons ?_ ?_ | refine Hz.plA_map (fun _ => ?_) _)); done))) ?_ | refine And.intro (.own _) ?_ | refine And.intro Hz.kit_self ?_ | refine And.intro Hz.notFirst_self ?_ | refine And.intro (show CMul _ _ from .inl ⟨by decide, by decide⟩) ?_ | refine And.intro (show CMul _ _ from .inr ⟨by decide, by decide⟩) ?_ | refine And.intro (show CMod _ _ from (by decide : (0 : Int) < _)) ?_ | refine And.intro (show CDiv _ _ from ⟨by decide, by decide⟩) ?_ | refine And.intro (show CPow _ _ from ⟨by decide, by decide, by decide⟩) ?_ | refine Or.inl (Exists.intro _ (And.intro rfl ?_)) | refine Or.inr (Exists.intro _ (And.intro rfl ?_)) | refine (fun (_ : V) => ?_) | refine (fun (_ : True) => ?_) | simp only [give_dat, give_cst, give_well, pys_nil, pys_consE, py_dat, py_lstE, py_tupE, pys_mapI, pys_mapD, dropsT_nil, dropsT_cons, startT, drop_bor, drop_lz, drop_dat, drop_cst, drop_well, drop_lst, drop_tup, drop_dic, drop_ins, opn_bor, opn_lz, opn_dat, opn_cst, opn_well, opn_lst, opn_tup, opn_dic, opn_ins, cls_bor, cls_lz, cls_dat, cls_cst, cls_well, cls_lst, cls_tup, cls_dic, cls_ins, clsAll_nil, clsAll_some, clsAll_none, Hz.putAt, putc_lst, putc_tup, putc_ins, child_lst, child_tup, child_ins, get_nil, get_cons, put_nil, put_cons, putFT, mask, List.getElem?_cons_zero, List.getElem?_cons_succ, List.set_cons_zero, List.set_cons_succ, Option.join_some, Option.map_some, Option.map_none, Option.bind_some, Option.bind_none, ite_true, ite_false, if_true, if_false, eq_self, Int.reduceToNat, Int.toNat_zero, Int.toNat_one, Int.reduceToNat, List.replicate_zero, List.replicate_succ, List.length_cons, List.length_nil, List.map_cons, List.map_nil, List.cons_append, List.nil_append, Nat.reduceSub, Nat.reduceAdd, Nat.zero_add, fp_Regions_0_n, fp_Regions_1_end, fp_Regions_2_ends, fp_Regions_3_n, fp_Regions_3_end, fp_Regions_3_ends, fp_Regions_3_UinitU, fp_Regions_3_take, fp_Regions_3_mark, fp_Regions_3_back, fp_Regions_3_top, fp_Regions_3_marks, fp_Regions_3_twin, fp_Regions_3_UeqU, fp_Regions_3_UneU] | exact rfl)
        refine ⟨rok_none, ?_⟩
        repeat (first | refine And.intro rfl ?_ | apply Exists.intro | refine And.intro (Nat.le_of_ble_eq_true rfl) ?_ | refine And.intro (by decide) ?_ | refine And.intro ⟨_, _, rfl, rfl⟩ ?_ | refine And.intro ⟨_, _, rfl, rfl, rfl⟩ ?_ | refine And.intro (Hz.copy_map _ _) ?_ | refine And.intro (Hz.all_cut (Hz.copy_map _ _)) ?_ | refine And.intro (Hz.pys_map _ _) ?_ | refine And.intro (Hz.real_map _ _) ?_ | refine And.intro Hz.insNo ?_ | refine And.intro (Hz.insOnly tx.i_Regions) ?_ | refine And.intro (Hz.shaped_pl (by ((repeat' (first | exact Hz.pl_int | exact Hz.pl_bool | exact Hz.pl_none | refine Hz.pl_list ?_ | refine Hz.pl_tuple ?_ | exact Hz.plA_nil | refine Hz.plA_cons ?_ ?_ | refine Hz.plA_map (fun _ => ?_) _)); done))) ?_ | refine And.intro (.own _) ?_ | refine And.intro Hz.kit_self ?_ | refine And.intro Hz.notFirst_self ?_ | refine And.intro (show CMul _ _ from .inl ⟨by decide, by decide⟩) ?_ | refine And.intro (show CMul _ _ from .inr ⟨by decide, by decide⟩) ?_ | refine And.intro (show CMod _ _ from (by decide : (0 : Int) < _)) ?_ | refine And.intro (show CDiv _ _ from ⟨by decide, by decide⟩) ?_ | refine And.intro (show CPow _ _ from ⟨by decide, by decide, by decide⟩) ?_ | refine Or.inl (Exists.intro _ (And.intro rfl ?_)) | refine Or.inr (Exists.intro _ (And.intro rfl ?_)) | refine (fun (_ : V) => ?_) | refine (fun (_ : True) => ?_) | simp only [give_dat, give_cst, give_well, pys_nil, pys_consE, py_dat, py_lstE, py_tupE, pys_mapI, pys_mapD, dropsT_nil, dropsT_cons, startT, drop_bor, drop_lz, drop_dat, drop_cst, drop_well, drop_lst, drop_tup, drop_dic, drop_ins, opn_bor, opn_lz, opn_dat, opn_cst, opn_well, opn_lst, opn_tup, opn_dic, opn_ins, cls_bor, cls_lz, cls_dat, cls_cst, cls_well, cls_lst, cls_tup, cls_dic, cls_ins, clsAll_nil, clsAll_some, clsAll_none, Hz.putAt, putc_lst, putc_tup, putc_ins, child_lst, child_tup, child_ins, get_nil, get_cons, put_nil, put_cons, putFT, mask, List.getElem?_cons_zero, List.getElem?_cons_succ, List.set_cons_zero, List.set_cons_succ, Option.join_some, Option.map_some, Option.map_none, Option.bind_some, Option.bind_none, ite_true, ite_false, if_true, if_false, eq_self, Int.reduceToNat, Int.toNat_zero, Int.toNat_one, Int.reduceToNat, List.replicate_zero, List.replicate_succ, List.length_cons, List.length_nil, List.map_cons, List.map_nil, List.cons_append, List.nil_append, Nat.reduceSub, Nat.reduceAdd, Nat.zero_add, fp_Regions_0_n, fp_Regions_1_end, fp_Regions_2_ends, fp_Regions_3_n, fp_Regions_3_end, fp_Regions_3_ends, fp_Regions_3_UinitU, fp_Regions_3_take, fp_Regions_3_mark, fp_Regions_3_back, fp_Regions_3_top, fp_Regions_3_marks, fp_Regions_3_twin, fp_Regions_3_UeqU, fp_Regions_3_UneU] | exact rfl)
        exact hp _ _ ok.same
  · repeat (first | refine And.intro rfl ?_ | apply Exists.intro | refine And.intro (Nat.le_of_ble_eq_true rfl) ?_ | refine And.intro (by decide) ?_ | refine And.intro ⟨_, _, rfl, rfl⟩ ?_ | refine And.intro ⟨_, _, rfl, rfl, rfl⟩ ?_ | refine And.intro (Hz.copy_map _ _) ?_ | refine And.intro (Hz.all_cut (Hz.copy_map _ _)) ?_ | refine And.intro (Hz.pys_map _ _) ?_ | refine And.intro (Hz.real_map _ _) ?_ | refine And.intro Hz.insNo ?_ | refine And.intro (Hz.insOnly tx.i_Regions) ?_ | refine And.intro (Hz.shaped_pl (by ((repeat' (first | exact Hz.pl_int | exact Hz.pl_bool | exact Hz.pl_none | refine Hz.pl_list ?_ | refine Hz.pl_tuple ?_ | exact Hz.plA_nil | refine Hz.plA_cons ?_ ?_ | refine Hz.plA_map (fun _ => ?_) _)); done))) ?_ | refine And.intro (.own _) ?_ | refine And.intro Hz.kit_self ?_ | refine And.intro Hz.notFirst_self ?_ | refine And.intro (show CMul _ _ from .inl ⟨by decide, by decide⟩) ?_ | refine And.intro (show CMul _ _ from .inr ⟨by decide, by decide⟩) ?_ | refine And.intro (show CMod _ _ from (by decide : (0 : Int) < _)) ?_ | refine And.intro (show CDiv _ _ from ⟨by decide, by decide⟩) ?_ | refine And.intro (show CPow _ _ from ⟨by decide, by decide, by decide⟩) ?_ | refine Or.inl (Exists.intro _ (And.intro rfl ?_)) | refine Or.inr (Exists.intro _ (And.intro rfl ?_)) | refine (fun (_ : V) => ?_) | refine (fun (_ : True) => ?_) | simp only [give_dat, give_cst, give_well, pys_nil, pys_consE, py_dat, py_lstE, py_tupE, pys_mapI, pys_mapD, dropsT_nil, dropsT_cons, startT, drop_bor, drop_lz, drop_dat, drop_cst, drop_well, drop_lst, drop_tup, drop_dic, drop_ins, opn_bor, opn_lz, opn_dat, opn_cst, opn_well, opn_lst, opn_tup, opn_dic, opn_ins, cls_bor, cls_lz, cls_dat, cls_cst, cls_well, cls_lst, cls_tup, cls_dic, cls_ins, clsAll_nil, clsAll_some, clsAll_none, Hz.putAt, putc_lst, putc_tup, putc_ins, child_lst, child_tup, child_ins, get_nil, get_cons, put_nil, put_cons, putFT, mask, List.getElem?_cons_zero, List.getElem?_cons_succ, List.set_cons_zero, List.set_cons_succ, Option.join_some, Option.map_some, Option.map_none, Option.bind_some, Option.bind_none, ite_true, ite_false, if_true, if_false, eq_self, Int.reduceToNat, Int.toNat_zero, Int.toNat_one, Int.reduceToNat, List.replicate_zero, List.replicate_succ, List.length_cons, List.length_nil, List.map_cons, List.map_nil, List.cons_append, List.nil_append, Nat.reduceSub, Nat.reduceAdd, Nat.zero_add, fp_Regions_0_n, fp_Regions_1_end, fp_Regions_2_ends, fp_Regions_3_n, fp_Regions_3_end, fp_Regions_3_ends, fp_Regions_3_UinitU, fp_Regions_3_take, fp_Regions_3_mark, fp_Regions_3_back, fp_Regions_3_top, fp_Regions_3_marks, fp_Regions_3_twin, fp_Regions_3_UeqU, fp_Regions_3_UneU] | exact rfl)
    refine iteD (fun c2 => ?_) (fun c2 => ?_)
    · exact ⟨mk _⟩
    · repeat (first | refine And.intro rfl ?_ | apply Exists.intro | refine And.intro (Nat.le_of_ble_eq_true rfl) ?_ | refine And.intro (by decide) ?_ | refine And.intro ⟨_, _, rfl, rfl⟩ ?_ | refine And.intro ⟨_, _, rfl, rfl, rfl⟩ ?_ | refine And.intro (Hz.copy_map _ _) ?_ | refine And.intro (Hz.all_cut (Hz.copy_map _ _)) ?_ | refine And.intro (Hz.pys_map _ _) ?_ | refine And.intro (Hz.real_map _ _) ?_ | refine And.intro Hz.insNo ?_ | refine And.intro (Hz.insOnly tx.i_Regions) ?_ | refine And.intro (Hz.shaped_pl (by ((repeat' (first | exact Hz.pl_int | exact Hz.pl_bool | exact Hz.pl_none | refine Hz.pl_list ?_ | refine Hz.pl_tuple ?_ | exact Hz.plA_nil | refine Hz.plA_cons ?_ ?_ | refine Hz.plA_map (fun _ => ?_) _)); done))) ?_ | refine And.intro (.own _) ?_ | refine And.intro Hz.kit_self ?_ | refine And.intro Hz.notFirst_self ?_ | refine And.intro (show CMul _ _ from .inl ⟨by decide, by decide⟩) ?_ | refine And.intro (show CMul _ _ from .inr ⟨by decide, by decide⟩) ?_ | refine And.intro (show CMod _ _ from (by decide : (0 : Int) < _)) ?_ | refine And.intro (show CDiv _ _ from ⟨by decide, by decide⟩) ?_ | refine And.intro (show CPow _ _ from ⟨by decide, by decide, by decide⟩) ?_ | refine Or.inl (Exists.intro _ (And.intro rfl ?_)) | refine Or.inr (Exists.intro _ (And.intro rfl ?_)) | refine (fun (_ : V) => ?_) | refine (fun (_ : True) => ?_) | simp only [give_dat, give_cst, give_well, pys_nil, pys_consE, py_dat, py_lstE, py_tupE, pys_mapI, pys_mapD, dropsT_nil, dropsT_cons, startT, drop_bor, drop_lz, drop_dat, drop_cst, drop_well, drop_lst, drop_tup, drop_dic, drop_ins, opn_bor, opn_lz, opn_dat, opn_cst, opn_well, opn_lst, opn_tup, opn_dic, opn_ins, cls_bor, cls_lz, cls_dat, cls_cst, cls_well, cls_lst, cls_tup, cls_dic, cls_ins, clsAll_nil, clsAll_some, clsAll_none, Hz.putAt, putc_lst, putc_tup, putc_ins, child_lst, child_tup, child_ins, get_nil, get_cons, put_nil, put_cons, putFT, mask, List.getElem?_cons_zero, List.getElem?_cons_succ, List.set_cons_zero, List.set_cons_succ, Option.join_some, Option.map_some, Option.map_none, Option.bind_some, Option.bind_none, ite_true, ite_false, if_true, if_false, eq_self, Int.reduceToNat, Int.toNat_zero, Int.toNat_one, Int.reduceToNat, List.replicate_zero, List.replicate_succ, List.length_cons, List.length_nil, List.map_cons, List.map_nil, List.cons_append, List.nil_append, Nat.reduceSub, Nat.reduceAdd, Nat.zero_add, fp_Regions_0_n, fp_Regions_1_end, fp_Regions_2_ends, fp_Regions_3_n, fp_Regions_3_end, fp_Regions_3_ends, fp_Regions_3_UinitU, fp_Regions_3_take, fp_Regions_3_mark, fp_Regions_3_back, fp_Regions_3_top, fp_Regions_3_marks, fp_Regions_3_twin, fp_Regions_3_UeqU, fp_Regions_3_UneU] | exact rfl)
      by_cases h : es = []
      · subst h
        exact iteT1 ⟨mk _⟩
      · refine (if_neg (show ¬ (if false = true then !(PyData.list (List.map PyData.int es)).eqv (PyData.list []) else (PyData.list (List.map PyData.int es)).eqv (PyData.list [])) = true from ?_)).mpr ?_
        · cases es with
          | nil => exact (h rfl).elim
          | cons x es => exact fun z => by cases z
        · repeat (first | refine And.intro rfl ?_ | apply Exists.intro | refine And.intro (Nat.le_of_ble_eq_true rfl) ?_ | refine And.intro (by decide) ?_ | refine And.intro ⟨_, _, rfl, rfl⟩ ?_ | refine And.intro ⟨_, _, rfl, rfl, rfl⟩ ?_ | refine And.intro (Hz.copy_map _ _) ?_ | refine And.intro (Hz.all_cut (Hz.copy_map _ _)) ?_ | refine And.intro (Hz.pys_map _ _) ?_ | refine And.intro (Hz.real_map _ _) ?_ | refine And.intro Hz.insNo ?_ | refine And.intro (Hz.insOnly tx.i_Regions) ?_ | refine And.intro (Hz.shaped_pl (by ((repeat' (first | exact Hz.pl_int | exact Hz.pl_bool | exact Hz.pl_none | refine Hz.pl_list ?_ | refine Hz.pl_tuple ?_ | exact Hz.plA_nil | refine Hz.plA_cons ?_ ?_ | refine Hz.plA_map (fun _ => ?_) _)); done))) ?_ | refine And.intro (.own _) ?_ | refine And.intro Hz.kit_self ?_ | refine And.intro Hz.notFirst_self ?_ | refine And.intro (show CMul _ _ from .inl ⟨by decide, by decide⟩) ?_ | refine And.intro (show CMul _ _ from .inr ⟨by decide, by decide⟩) ?_ | refine And.intro (show CMod _ _ from (by decide : (0 : Int) < _)) ?_ | refine And.intro (show CDiv _ _ from ⟨by decide, by decide⟩) ?_ | refine And.intro (show CPow _ _ from ⟨by decide, by decide, by decide⟩) ?_ | refine Or.inl (Exists.intro _ (And.intro rfl ?_)) | refine Or.inr (Exists.intro _ (And.intro rfl ?_)) | refine (fun (_ : V) => ?_) | refine (fun (_ : True) => ?_) | simp only [give_dat, give_cst, give_well, pys_nil, pys_consE, py_dat, py_lstE, py_tupE, pys_mapI, pys_mapD, dropsT_nil, dropsT_cons, startT, drop_bor, drop_lz, drop_dat, drop_cst, drop_well, drop_lst, drop_tup, drop_dic, drop_ins, opn_bor, opn_lz, opn_dat, opn_cst, opn_well, opn_lst, opn_tup, opn_dic, opn_ins, cls_bor, cls_lz, cls_dat, cls_cst, cls_well, cls_lst, cls_tup, cls_dic, cls_ins, clsAll_nil, clsAll_some, clsAll_none, Hz.putAt, putc_lst, putc_tup, putc_ins, child_lst, child_tup, child_ins, get_nil, get_cons, put_nil, put_cons, putFT, mask, List.getElem?_cons_zero, List.getElem?_cons_succ, List.set_cons_zero, List.set_cons_succ, Option.join_some, Option.map_some, Option.map_none, Option.bind_some, Option.bind_none, ite_true, ite_false, if_true, if_false, eq_self, Int.reduceToNat, Int.toNat_zero, Int.toNat_one, Int.reduceToNat, List.replicate_zero, List.replicate_succ, List.length_cons, List.length_nil, List.map_cons, List.map_nil, List.cons_append, List.nil_append, Nat.reduceSub, Nat.reduceAdd, Nat.zero_add, fp_Regions_0_n, fp_Regions_1_end, fp_Regions_2_ends, fp_Regions_3_n, fp_Regions_3_end, fp_Regions_3_ends, fp_Regions_3_UinitU, fp_Regions_3_take, fp_Regions_3_mark, fp_Regions_3_back, fp_Regions_3_top, fp_Regions_3_marks, fp_Regions_3_twin, fp_Regions_3_UeqU, fp_Regions_3_UneU] | exact rfl)
          refine ⟨by rw [List.length_map]; have := List.length_pos_iff.mpr h; omega, fun m m0 m1 _ => ?_⟩
          have m2 : m < es.length := by rw [List.length_map] at m1; exact m1
          obtain ⟨x, hx⟩ : ∃ x, es[m.toNat]? = some x := ⟨_, List.getElem?_eq_getElem (by omega)⟩
          have hx' : (es.map tI)[m.toNat]? = some (tI x) := by rw [List.getElem?_map, hx]; rfl
          have ob := ok.at_ x (List.mem_of_getElem? hx)
          repeat (first | refine And.intro rfl ?_ | apply Exists.intro | refine And.intro (Nat.le_of_ble_eq_true rfl) ?_ | refine And.intro (by decide) ?_ | refine And.intro ⟨_, _, rfl, rfl⟩ ?_ | refine And.intro ⟨_, _, rfl, rfl, rfl⟩ ?_ | refine And.intro (Hz.copy_map _ _) ?_ | refine And.intro (Hz.all_cut (Hz.copy_map _ _)) ?_ | refine And.intro (Hz.pys_map _ _) ?_ | refine And.intro (Hz.real_map _ _) ?_ | refine And.intro Hz.insNo ?_ | refine And.intro (Hz.insOnly tx.i_Regions) ?_ | refine And.intro (Hz.shaped_pl (by ((repeat' (first | exact Hz.pl_int | exact Hz.pl_bool | exact Hz.pl_none | refine Hz.pl_list ?_ | refine Hz.pl_tuple ?_ | exact Hz.plA_nil | refine Hz.plA_cons ?_ ?_ | refine Hz.plA_map (fun _ => ?_) _)); done))) ?_ | refine And.intro (.own _) ?_ | refine And.intro Hz.kit_self ?_ | refine And.intro Hz.notFirst_self ?_ | refine And.intro (show CMul _ _ from .inl ⟨by decide, by decide⟩) ?_ | refine And.intro (show CMul _ _ from .inr ⟨by decide, by decide⟩) ?_ | refine And.intro (show CMod _ _ from (by decide : (0 : Int) < _)) ?_ | refine And.intro (show CDiv _ _ from ⟨by decide, by decide⟩) ?_ | refine And.intro (show CPow _ _ from ⟨by decide, by decide, by decide⟩) ?_ | refine Or.inl (Exists.intro _ (And.intro rfl ?_)) | refine Or.inr (Exists.intro _ (And.intro rfl ?_)) | refine (fun (_ : V) => ?_) | refine (fun (_ : True) => ?_) | simp only [give_dat, give_cst, give_well, pys_nil, pys_consE, py_dat, py_lstE, py_tupE, pys_mapI, pys_mapD, dropsT_nil, dropsT_cons, startT, drop_bor, drop_lz, drop_dat, drop_cst, drop_well, drop_lst, drop_tup, drop_dic, drop_ins, opn_bor, opn_lz, opn_dat, opn_cst, opn_well, opn_lst, opn_tup, opn_dic, opn_ins, cls_bor, cls_lz, cls_dat, cls_cst, cls_well, cls_lst, cls_tup, cls_dic, cls_ins, clsAll_nil, clsAll_some, clsAll_none, Hz.putAt, putc_lst, putc_tup, putc_ins, child_lst, child_tup, child_ins, get_nil, get_cons, put_nil, put_cons, putFT, mask, List.getElem?_cons_zero, List.getElem?_cons_succ, List.set_cons_zero, List.set_cons_succ, Option.join_some, Option.map_some, Option.map_none, Option.bind_some, Option.bind_none, ite_true, ite_false, if_true, if_false, eq_self, Int.reduceToNat, Int.toNat_zero, Int.toNat_one, Int.reduceToNat, List.replicate_zero, List.replicate_succ, List.length_cons, List.length_nil, List.map_cons, List.map_nil, List.cons_append, List.nil_append, Nat.reduceSub, Nat.reduceAdd, Nat.zero_add, fp_Regions_0_n, fp_Regions_1_end, fp_Regions_2_ends, fp_Regions_3_n, fp_Regions_3_end, fp_Regions_3_ends, fp_Regions_3_UinitU, fp_Regions_3_take, fp_Regions_3_mark, fp_Regions_3_back, fp_Regions_3_top, fp_Regions_3_marks, fp_Regions_3_twin, fp_Regions_3_UeqU, fp_Regions_3_UneU] | exact rfl)
          refine ⟨ixN_of m0 m1, ?_⟩
          refine ⟨hx', ?_⟩
          repeat (first | refine And.intro rfl ?_ | apply Exists.intro | refine And.intro (Nat.le_of_ble_eq_true rfl) ?_ | refine And.intro (by decide) ?_ | refine And.intro ⟨_, _, rfl, rfl⟩ ?_ | refine And.intro ⟨_, _, rfl, rfl, rfl⟩ ?_ | refine And.intro (Hz.copy_map _ _) ?_ | refine And.intro (Hz.all_cut (Hz.copy_map _ _)) ?_ | refine And.intro (Hz.pys_map _ _) ?_ | refine And.intro (Hz.real_map _ _) ?_ | refine And.intro Hz.insNo ?_ | refine And.intro (Hz.insOnly tx.i_Regions) ?_ | refine And.intro (Hz.shaped_pl (by ((repeat' (first | exact Hz.pl_int | exact Hz.pl_bool | exact Hz.pl_none | refine Hz.pl_list ?_ | refine Hz.pl_tuple ?_ | exact Hz.plA_nil | refine Hz.plA_cons ?_ ?_ | refine Hz.plA_map (fun _ => ?_) _)); done))) ?_ | refine And.intro (.own _) ?_ | refine And.intro Hz.kit_self ?_ | refine And.intro Hz.notFirst_self ?_ | refine And.intro (show CMul _ _ from .inl ⟨by decide, by decide⟩) ?_ | refine And.intro (show CMul _ _ from .inr ⟨by decide, by decide⟩) ?_ | refine And.intro (show CMod _ _ from (by decide : (0 : Int) < _)) ?_ | refine And.intro (show CDiv _ _ from ⟨by decide, by decide⟩) ?_ | refine And.intro (show CPow _ _ from ⟨by decide, by decide, by decide⟩) ?_ | refine Or.inl (Exists.intro _ (And.intro rfl ?_)) | refine Or.inr (Exists.intro _ (And.intro rfl ?_)) | refine (fun (_ : V) => ?_) | refine (fun (_ : True) => ?_) | simp only [give_dat, give_cst, give_well, pys_nil, pys_consE, py_dat, py_lstE, py_tupE, pys_mapI, pys_mapD, dropsT_nil, dropsT_cons, startT, drop_bor, drop_lz, drop_dat, drop_cst, drop_well, drop_lst, drop_tup, drop_dic, drop_ins, opn_bor, opn_lz, opn_dat, opn_cst, opn_well, opn_lst, opn_tup, opn_dic, opn_ins, cls_bor, cls_lz, cls_dat, cls_cst, cls_well, cls_lst, cls_tup, cls_dic, cls_ins, clsAll_nil, clsAll_some, clsAll_none, Hz.putAt, putc_lst, putc_tup, putc_ins, child_lst, child_tup, child_ins, get_nil, get_cons, put_nil, put_cons, putFT, mask, List.getElem?_cons_zero, List.getElem?_cons_succ, List.set_cons_zero, List.set_cons_succ, Option.join_some, Option.map_some, Option.map_none, Option.bind_some, Option.bind_none, ite_true, ite_false, if_true, if_false, eq_self, Int.reduceToNat, Int.toNat_zero, Int.toNat_one, Int.reduceToNat, List.replicate_zero, List.replicate_succ, List.length_cons, List.length_nil, List.map_cons, List.map_nil, List.cons_append, List.nil_append, Nat.reduceSub, Nat.reduceAdd, Nat.zero_add, fp_Regions_0_n, fp_Regions_1_end, fp_Regions_2_ends, fp_Regions_3_n, fp_Regions_3_end, fp_Regions_3_ends, fp_Regions_3_UinitU, fp_Regions_3_take, fp_Regions_3_mark, fp_Regions_3_back, fp_Regions_3_top, fp_Regions_3_marks, fp_Regions_3_twin, fp_Regions_3_UeqU, fp_Regions_3_UneU] | exact rfl)
          refine ⟨ixN_of m0 m1, ?_⟩
          refine ⟨hx', ?_⟩
          repeat (first | refine And.intro rfl ?_ | apply Exists.intro | refine And.intro (Nat.le_of_ble_eq_true rfl) ?_ | refine And.intro (by decide) ?_ | refine And.intro ⟨_, _, rfl, rfl⟩ ?_ | refine And.intro ⟨_, _, rfl, rfl, rfl⟩ ?_ | refine And.intro (Hz.copy_map _ _) ?_ | refine And.intro (Hz.all_cut (Hz.copy_map _ _)) ?_ | refine And.intro (Hz.pys_map _ _) ?_ | refine And.intro (Hz.real_map _ _) ?_ | refine And.intro Hz.insNo ?_ | refine And.intro (Hz.insOnly tx.i_Regions) ?_ | refine And.intro (Hz.shaped_pl (by ((repeat' (first | exact Hz.pl_int | exact Hz.pl_bool | exact Hz.pl_none | refine Hz.pl_list ?_ | refine Hz.pl_tuple ?_ | exact Hz.plA_nil | refine Hz.plA_cons ?_ ?_ | refine Hz.plA_map (fun _ => ?_) _)); done))) ?_ | refine And.intro (.own _) ?_ | refine And.intro Hz.kit_self ?_ | refine And.intro Hz.notFirst_self ?_ | refine And.intro (show CMul _ _ from .inl ⟨by decide, by decide⟩) ?_ | refine And.intro (show CMul _ _ from .inr ⟨by decide, by decide⟩) ?_ | refine And.intro (show CMod _ _ from (by decide : (0 : Int) < _)) ?_ | refine And.intro (show CDiv _ _ from ⟨by decide, by decide⟩) ?_ | refine And.intro (show CPow _ _ from ⟨by decide, by decide, by decide⟩) ?_ | refine Or.inl (Exists.intro _ (And.intro rfl ?_)) | refine Or.inr (Exists.intro _ (And.intro rfl ?_)) | refine (fun (_ : V) => ?_) | refine (fun (_ : True) => ?_) | simp only [give_dat, give_cst, give_well, pys_nil, pys_consE, py_dat, py_lstE, py_tupE, pys_mapI, pys_mapD, dropsT_nil, dropsT_cons, startT, drop_bor, drop_lz, drop_dat, drop_cst, drop_well, drop_lst, drop_tup, drop_dic, drop_ins, opn_bor, opn_lz, opn_dat, opn_cst, opn_well, opn_lst, opn_tup, opn_dic, opn_ins, cls_bor, cls_lz, cls_dat, cls_cst, cls_well, cls_lst, cls_tup, cls_dic, cls_ins, clsAll_nil, clsAll_some, clsAll_none, Hz.putAt, putc_lst, putc_tup, putc_ins, child_lst, child_tup, child_ins, get_nil, get_cons, put_nil, put_cons, putFT, mask, List.getElem?_cons_zero, List.getElem?_cons_succ, List.set_cons_zero, List.set_cons_succ, Option.join_some, Option.map_some, Option.map_none, Option.bind_some, Option.bind_none, ite_true, ite_false, if_true, if_false, eq_self, Int.reduceToNat, Int.toNat_zero, Int.toNat_one, Int.reduceToNat, List.replicate_zero, List.replicate_succ, List.length_cons, List.length_nil, List.map_cons, List.map_nil, List.cons_append, List.nil_append, Nat.reduceSub, Nat.reduceAdd, Nat.zero_add, fp_Regions_0_n, fp_Regions_1_end, fp_Regions_2_ends, fp_Regions_3_n, fp_Regions_3_end, fp_Regions_3_ends, fp_Regions_3_UinitU, fp_Regions_3_take, fp_Regions_3_mark, fp_Regions_3_back, fp_Regions_3_top, fp_Regions_3_marks, fp_Regions_3_twin, fp_Regions_3_UeqU, fp_Regions_3_UneU] | exact rfl)
          rw [cutT_pre m0 (by omega), ← List.map_take]
          have ok' := ok.back hx
          refine iteI (fun c3 => ?_) (fun c3 => ?_)
          · repeat (first | refine And.intro rfl ?_ | apply Exists.intro | refine And.intro (Nat.le_of_ble_eq_true rfl) ?_ | refine And.intro (by decide) ?_ | refine And.intro ⟨_, _, rfl, rfl⟩ ?_ | refine And.intro ⟨_, _, rfl, rfl, rfl⟩ ?_ | refine And.intro (Hz.copy_map _ _) ?_ | refine And.intro (Hz.all_cut (Hz.copy_map _ _)) ?_ | refine And.intro (Hz.pys_map _ _) ?_ | refine And.intro (Hz.real_map _ _) ?_ | refine And.intro Hz.insNo ?_ | refine And.intro (Hz.insOnly tx.i_Regions) ?_ | refine And.intro (Hz.shaped_pl (by ((repeat' (first | exact Hz.pl_int | exact Hz.pl_bool | exact Hz.pl_none | refine Hz.pl_list ?_ | refine Hz.pl_tuple ?_ | exact Hz.plA_nil | refine Hz.plA_cons ?_ ?_ | refine Hz.plA_map (fun _ => ?_) _)); done))) ?_ | refine And.intro (.own _) ?_ | refine And.intro Hz.kit_self ?_ | refine And.intro Hz.notFirst_self ?_ | refine And.intro (show CMul _ _ from .inl ⟨by decide, by decide⟩) ?_ | refine And.intro (show CMul _ _ from .inr ⟨by decide, by decide⟩) ?_ | refine And.intro (show CMod _ _ from (by decide : (0 : Int) < _)) ?_ | refine And.intro (show CDiv _ _ from ⟨by decide, by decide⟩) ?_ | refine And.intro (show CPow _ _ from ⟨by decide, by decide, by decide⟩) ?_ | refine Or.inl (Exists.intro _ (And.intro rfl ?_)) | refine Or.inr (Exists.intro _ (And.intro rfl ?_)) | refine (fun (_ : V) => ?_) | refine (fun (_ : True) => ?_) | simp only [give_dat, give_cst, give_well, pys_nil, pys_consE, py_dat, py_lstE, py_tupE, pys_mapI, pys_mapD, dropsT_nil, dropsT_cons, startT, drop_bor, drop_lz, drop_dat, drop_cst, drop_well, drop_lst, drop_tup, drop_dic, drop_ins, opn_bor, opn_lz, opn_dat, opn_cst, opn_well, opn_lst, opn_tup, opn_dic, opn_ins, cls_bor, cls_lz, cls_dat, cls_cst, cls_well, cls_lst, cls_tup, cls_dic, cls_ins, clsAll_nil, clsAll_some, clsAll_none, Hz.putAt, putc_lst, putc_tup, putc_ins, child_lst, child_tup, child_ins, get_nil, get_cons, put_nil, put_cons, putFT, mask, List.getElem?_cons_zero, List.getElem?_cons_succ, List.set_cons_zero, List.set_cons_succ, Option.join_some, Option.map_some, Option.map_none, Option.bind_some, Option.bind_none, ite_true, ite_false, if_true, if_false, eq_self, Int.reduceToNat, Int.toNat_zero, Int.toNat_one, Int.reduceToNat, List.replicate_zero, List.replicate_succ, List.length_cons, List.length_nil, List.map_cons, List.map_nil, List.cons_append, List.nil_append, Nat.reduceSub, Nat.reduceAdd, Nat.zero_add, fp_Regions_0_n, fp_Regions_1_end, fp_Regions_2_ends, fp_Regions_3_n, fp_Regions_3_end, fp_Regions_3_ends, fp_Regions_3_UinitU, fp_Regions_3_take, fp_Regions_3_mark, fp_Regions_3_back, fp_Regions_3_top, fp_Regions_3_marks, fp_Regions_3_twin, fp_Regions_3_UeqU, fp_Regions_3_UneU] | exact rfl)
            refine ⟨m0, m2, ?_⟩
            refine ⟨hx, fun _ => ?_⟩
            repeat (first | refine And.intro rfl ?_ | apply Exists.intro | refine And.intro (Nat.le_of_ble_eq_true rfl) ?_ | refine And.intro (by decide) ?_ | refine And.intro ⟨_, _, rfl, rfl⟩ ?_ | refine And.intro ⟨_, _, rfl, rfl, rfl⟩ ?_ | refine And.intro (Hz.copy_map _ _) ?_ | refine And.intro (Hz.all_cut (Hz.copy_map _ _)) ?_ | refine And.intro (Hz.pys_map _ _) ?_ | refine And.intro (Hz.real_map _ _) ?_ | refine And.intro Hz.insNo ?_ | refine And.intro (Hz.insOnly tx.i_Regions) ?_ | refine And.intro (Hz.shaped_pl (by ((repeat' (first | exact Hz.pl_int | exact Hz.pl_bool | exact Hz.pl_none | refine Hz.pl_list ?_ | refine Hz.pl_tuple ?_ | exact Hz.plA_nil | refine Hz.plA_cons ?_ ?_ | refine Hz.plA_map (fun _ => ?_) _)); done))) ?_ | refine And.intro (.own _) ?_ | refine And.intro Hz.kit_self ?_ | refine And.intro Hz.notFirst_self ?_ | refine And.intro (show CMul _ _ from .inl ⟨by decide, by decide⟩) ?_ | refine And.intro (show CMul _ _ from .inr ⟨by decide, by decide⟩) ?_ | refine And.intro (show CMod _ _ from (by decide : (0 : Int) < _)) ?_ | refine And.intro (show CDiv _ _ from ⟨by decide, by decide⟩) ?_ | refine And.intro (show CPow _ _ from ⟨by decide, by decide, by decide⟩) ?_ | refine Or.inl (Exists.intro _ (And.intro rfl ?_)) | refine Or.inr (Exists.intro _ (And.intro rfl ?_)) | refine (fun (_ : V) => ?_) | refine (fun (_ : True) => ?_) | simp only [give_dat, give_cst, give_well, pys_nil, pys_consE, py_dat, py_lstE, py_tupE, pys_mapI, pys_mapD, dropsT_nil, dropsT_cons, startT, drop_bor, drop_lz, drop_dat, drop_cst, drop_well, drop_lst, drop_tup, drop_dic, drop_ins, opn_bor, opn_lz, opn_dat, opn_cst, opn_well, opn_lst, opn_tup, opn_dic, opn_ins, cls_bor, cls_lz, cls_dat, cls_cst, cls_well, cls_lst, cls_tup, cls_dic, cls_ins, clsAll_nil, clsAll_some, clsAll_none, Hz.putAt, putc_lst, putc_tup, putc_ins, child_lst, child_tup, child_ins, get_nil, get_cons, put_nil, put_cons, putFT, mask, List.getElem?_cons_zero, List.getElem?_cons_succ, List.set_cons_zero, List.set_cons_succ, Option.join_some, Option.map_some, Option.map_none, Option.bind_some, Option.bind_none, ite_true, ite_false, if_true, if_false, eq_self, Int.reduceToNat, Int.toNat_zero, Int.toNat_one, Int.reduceToNat, List.replicate_zero, List.replicate_succ, List.length_cons, List.length_nil, List.map_cons, List.map_nil, List.cons_append, List.nil_append, Nat.reduceSub, Nat.reduceAdd, Nat.zero_add, fp_Regions_0_n, fp_Regions_1_end, fp_Regions_2_ends, fp_Regions_3_n, fp_Regions_3_end, fp_Regions_3_ends, fp_Regions_3_UinitU, fp_Regions_3_take, fp_Regions_3_mark, fp_Regions_3_back, fp_Regions_3_top, fp_Regions_3_marks, fp_Regions_3_twin, fp_Regions_3_UeqU, fp_Regions_3_UneU] | exact rfl)
            refine ⟨rok_int (by have := ok.e0; have := ok.en; have := ok.n2; omega), ?_⟩
            repeat (first | refine And.intro rfl ?_ | apply Exists.intro | refine And.intro (Nat.le_of_ble_eq_true rfl) ?_ | refine And.intro (by decide) ?_ | refine And.intro ⟨_, _, rfl, rfl⟩ ?_ | refine And.intro ⟨_, _, rfl, rfl, rfl⟩ ?_ | refine And.intro (Hz.copy_map _ _) ?_ | refine And.intro (Hz.all_cut (Hz.copy_map _ _)) ?_ | refine And.intro (Hz.pys_map _ _) ?_ | refine And.intro (Hz.real_map _ _) ?_ | refine And.intro Hz.insNo ?_ | refine And.intro (Hz.insOnly tx.i_Regions) ?_ | refine And.intro (Hz.shaped_pl (by ((repeat' (first | exact Hz.pl_int | exact Hz.pl_bool | exact Hz.pl_none | refine Hz.pl_list ?_ | refine Hz.pl_tuple ?_ | exact Hz.plA_nil | refine Hz.plA_cons ?_ ?_ | refine Hz.plA_map (fun _ => ?_) _)); done))) ?_ | refine And.intro (.own _) ?_ | refine And.intro Hz.kit_self ?_ | refine And.intro Hz.notFirst_self ?_ | refine And.intro (show CMul _ _ from .inl ⟨by decide, by decide⟩) ?_ | refine And.intro (show CMul _ _ from .inr ⟨by decide, by decide⟩) ?_ | refine And.intro (show CMod _ _ from (by decide : (0 : Int) < _)) ?_ | refine And.intro (show CDiv _ _ from ⟨by decide, by decide⟩) ?_ | refine And.intro (show CPow _ _ from ⟨by decide, by decide, by decide⟩) ?_ | refine Or.inl (Exists.intro _ (And.intro rfl ?_)) | refine Or.inr (Exists.intro _ (And.intro rfl ?_)) | refine (fun (_ : V) => ?_) | refine (fun (_ : True) => ?_) | simp only [give_dat, give_cst, give_well, pys_nil, pys_consE, py_dat, py_lstE, py_tupE, pys_mapI, pys_mapD, dropsT_nil, dropsT_cons, startT, drop_bor, drop_lz, drop_dat, drop_cst, drop_well, drop_lst, drop_tup, drop_dic, drop_ins, opn_bor, opn_lz, opn_dat, opn_cst, opn_well, opn_lst, opn_tup, opn_dic, opn_ins, cls_bor, cls_lz, cls_dat, cls_cst, cls_well, cls_lst, cls_tup, cls_dic, cls_ins, clsAll_nil, clsAll_some, clsAll_none, Hz.putAt, putc_lst, putc_tup, putc_ins, child_lst, child_tup, child_ins, get_nil, get_cons, put_nil, put_cons, putFT, mask, List.getElem?_cons_zero, List.getElem?_cons_succ, List.set_cons_zero, List.set_cons_succ, Option.join_some, Option.map_some, Option.map_none, Option.bind_some, Option.bind_none, ite_true, ite_false, if_true, if_false, eq_self, Int.reduceToNat, Int.toNat_zero, Int.toNat_one, Int.reduceToNat, List.replicate_zero, List.replicate_succ, List.length_cons, List.length_nil, List.map_cons, List.map_nil, List.cons_append, List.nil_append, Nat.reduceSub, Nat.reduceAdd, Nat.zero_add, fp_Regions_0_n, fp_Regions_1_end, fp_Regions_2_ends, fp_Regions_3_n, fp_Regions_3_end, fp_Regions_3_ends, fp_Regions_3_UinitU, fp_Regions_3_take, fp_Regions_3_mark, fp_Regions_3_back, fp_Regions_3_top, fp_Regions_3_marks, fp_Regions_3_twin, fp_Regions_3_UeqU, fp_Regions_3_UneU] | exact rfl)
            refine ⟨rok_int (by have := ok.e0; have := ok.en; have := ok.n2; omega), ?_⟩
            repeat (first | refine And.intro rfl ?_ | apply Exists.intro | refine And.intro (Nat.le_of_ble_eq_true rfl) ?_ | refine And.intro (by decide) ?_ | refine And.intro ⟨_, _, rfl, rfl⟩ ?_ | refine And.intro ⟨_, _, rfl, rfl, rfl⟩ ?_ | refine And.intro (Hz.copy_map _ _) ?_ | refine And.intro (Hz.all_cut (Hz.copy_map _ _)) ?_ | refine And.intro (Hz.pys_map _ _) ?_ | refine And.intro (Hz.real_map _ _) ?_ | refine And.intro Hz.insNo ?_ | refine And.intro (Hz.insOnly tx.i_Regions) ?_ | refine And.intro (Hz.shaped_pl (by ((repeat' (first | exact Hz.pl_int | exact Hz.pl_bool | exact Hz.pl_none | refine Hz.pl_list ?_ | refine Hz.pl_tuple ?_ | exact Hz.plA_nil | refine Hz.plA_cons ?_ ?_ | refine Hz.plA_map (fun _ => ?_) _)); done))) ?_ | refine And.intro (.own _) ?_ | refine And.intro Hz.kit_self ?_ | refine And.intro Hz.notFirst_self ?_ | refine And.intro (show CMul _ _ from .inl ⟨by decide, by decide⟩) ?_ | refine And.intro (show CMul _ _ from .inr ⟨by decide, by decide⟩) ?_ | refine And.intro (show CMod _ _ from (by decide : (0 : Int) < _)) ?_ | refine And.intro (show CDiv _ _ from ⟨by decide, by decide⟩) ?_ | refine And.intro (show CPow _ _ from ⟨by decide, by decide, by decide⟩) ?_ | refine Or.inl (Exists.intro _ (And.intro rfl ?_)) | refine Or.inr (Exists.intro _ (And.intro rfl ?_)) | refine (fun (_ : V) => ?_) | refine (fun (_ : True) => ?_) | simp only [give_dat, give_cst, give_well, pys_nil, pys_consE, py_dat, py_lstE, py_tupE, pys_mapI, pys_mapD, dropsT_nil, dropsT_cons, startT, drop_bor, drop_lz, drop_dat, drop_cst, drop_well, drop_lst, drop_tup, drop_dic, drop_ins, opn_bor, opn_lz, opn_dat, opn_cst, opn_well, opn_lst, opn_tup, opn_dic, opn_ins, cls_bor, cls_lz, cls_dat, cls_cst, cls_well, cls_lst, cls_tup, cls_dic, cls_ins, clsAll_nil, clsAll_some, clsAll_none, Hz.putAt, putc_lst, putc_tup, putc_ins, child_lst, child_tup, child_ins, get_nil, get_cons, put_nil, put_cons, putFT, mask, List.getElem?_cons_zero, List.getElem?_cons_succ, List.set_cons_zero, List.set_cons_succ, Option.join_some, Option.map_some, Option.map_none, Option.bind_some, Option.bind_none, ite_true, ite_false, if_true, if_false, eq_self, Int.reduceToNat, Int.toNat_zero, Int.toNat_one, Int.reduceToNat, List.replicate_zero, List.replicate_succ, List.length_cons, List.length_nil, List.map_cons, List.map_nil, List.cons_append, List.nil_append, Nat.reduceSub, Nat.reduceAdd, Nat.zero_add, fp_Regions_0_n, fp_Regions_1_end, fp_Regions_2_ends, fp_Regions_3_n, fp_Regions_3_end, fp_Regions_3_ends, fp_Regions_3_UinitU, fp_Regions_3_take, fp_Regions_3_mark, fp_Regions_3_back, fp_Regions_3_top, fp_Regions_3_marks, fp_Regions_3_twin, fp_Regions_3_UeqU, fp_Regions_3_UneU] | exact rfl)
            exact hp _ _ ok'
          · repeat (first | refine And.intro rfl ?_ | apply Exists.intro | refine And.intro (Nat.le_of_ble_eq_true rfl) ?_ | refine And.intro (by decide) ?_ | refine And.intro ⟨_, _, rfl, rfl⟩ ?_ | refine And.intro ⟨_, _, rfl, rfl, rfl⟩ ?_ | refine And.intro (Hz.copy_map _ _) ?_ | refine And.intro (Hz.all_cut (Hz.copy_map _ _)) ?_ | refine And.intro (Hz.pys_map _ _) ?_ | refine And.intro (Hz.real_map _ _) ?_ | refine And.intro Hz.insNo ?_ | refine And.intro (Hz.insOnly tx.i_Regions) ?_ | refine And.intro (Hz.shaped_pl (by ((repeat' (first | exact Hz.pl_int | exact Hz.pl_bool | exact Hz.pl_none | refine Hz.pl_list ?_ | refine Hz.pl_tuple ?_ | exact Hz.plA_nil | refine Hz.plA_cons ?_ ?_ | refine Hz.plA_map (fun _ => ?_) _)); done))) ?_ | refine And.intro (.own _) ?_ | refine And.intro Hz.kit_self ?_ | refine And.intro Hz.notFirst_self ?_ | refine And.intro (show CMul _ _ from .inl ⟨by decide, by decide⟩) ?_ | refine And.intro (show CMul _ _ from .inr ⟨by decide, by decide⟩) ?_ | refine And.intro (show CMod _ _ from (by decide : (0 : Int) < _)) ?_ | refine And.intro (show CDiv _ _ from ⟨by decide, by decide⟩) ?_ | refine And.intro (show CPow _ _ from ⟨by decide, by decide, by decide⟩) ?_ | refine Or.inl (Exists.intro _ (And.intro rfl ?_)) | refine Or.inr (Exists.intro _ (And.intro rfl ?_)) | refine (fun (_ : V) => ?_) | refine (fun (_ : True) => ?_) | simp only [give_dat, give_cst, give_well, pys_nil, pys_consE, py_dat, py_lstE, py_tupE, pys_mapI, pys_mapD, dropsT_nil, dropsT_cons, startT, drop_bor, drop_lz, drop_dat, drop_cst, drop_well, drop_lst, drop_tup, drop_dic, drop_ins, opn_bor, opn_lz, opn_dat, opn_cst, opn_well, opn_lst, opn_tup, opn_dic, opn_ins, cls_bor, cls_lz, cls_dat, cls_cst, cls_well, cls_lst, cls_tup, cls_dic, cls_ins, clsAll_nil, clsAll_some, clsAll_none, Hz.putAt, putc_lst, putc_tup, putc_ins, child_lst, child_tup, child_ins, get_nil, get_cons, put_nil, put_cons, putFT, mask, List.getElem?_cons_zero, List.getElem?_cons_succ, List.set_cons_zero, List.set_cons_succ, Option.join_some, Option.map_some, Option.map_none, Option.bind_some, Option.bind_none, ite_true, ite_false, if_true, if_false, eq_self, Int.reduceToNat, Int.toNat_zero, Int.toNat_one, Int.reduceToNat, List.replicate_zero, List.replicate_succ, List.length_cons, List.length_nil, List.map_cons, List.map_nil, List.cons_append, List.nil_append, Nat.reduceSub, Nat.reduceAdd, Nat.zero_add, fp_Regions_0_n, fp_Regions_1_end, fp_Regions_2_ends, fp_Regions_3_n, fp_Regions_3_end, fp_Regions_3_ends, fp_Regions_3_UinitU, fp_Regions_3_take, fp_Regions_3_mark, fp_Regions_3_back, fp_Regions_3_top, fp_Regions_3_marks, fp_Regions_3_twin, fp_Regions_3_UeqU, fp_Regions_3_UneU] | exact rfl)
            refine ⟨m0, m2, ?_⟩
            refine ⟨hx, fun _ => ?_⟩
            repeat (first | refine And.intro rfl ?_ | apply Exists.intro | refine And.intro (Nat.le_of_ble_eq_true rfl) ?_ | refine And.intro (by decide) ?_ | refine And.intro ⟨_, _, rfl, rfl⟩ ?_ | refine And.intro ⟨_, _, rfl, rfl, rfl⟩ ?_ | refine And.intro (Hz.copy_map _ _) ?_ | refine And.intro (Hz.all_cut (Hz.copy_map _ _)) ?_ | refine And.intro (Hz.pys_map _ _) ?_ | refine And.intro (Hz.real_map _ _) ?_ | refine And.intro Hz.insNo ?_ | refine And.intro (Hz.insOnly tx.i_Regions) ?_ | refine And.intro (Hz.shaped_pl (by ((repeat' (first | exact Hz.pl_int | exact Hz.pl_bool | exact Hz.pl_none | refine Hz.pl_list ?_ | refine Hz.pl_tuple ?_ | exact Hz.plA_nil | refine Hz.plA_cons ?_ ?_ | refine Hz.plA_map (fun _ => ?_) _)); done))) ?_ | refine And.intro (.own _) ?_ | refine And.intro Hz.kit_self ?_ | refine And.intro Hz.notFirst_self ?_ | refine And.intro (show CMul _ _ from .inl ⟨by decide, by decide⟩) ?_ | refine And.intro (show CMul _ _ from .inr ⟨by decide, by decide⟩) ?_ | refine And.intro (show CMod _ _ from (by decide : (0 : Int) < _)) ?_ | refine And.intro (show CDiv _ _ from ⟨by decide, by decide⟩) ?_ | refine And.intro (show CPow _ _ from ⟨by decide, by decide, by decide⟩) ?_ | refine Or.inl (Exists.intro _ (And.intro rfl ?_)) | refine Or.inr (Exists.intro _ (And.intro rfl ?_)) | refine (fun (_ : V) => ?_) | refine (fun (_ : True) => ?_) | simp only [give_dat, give_cst, give_well, pys_nil, pys_consE, py_dat, py_lstE, py_tupE, pys_mapI, pys_mapD, dropsT_nil, dropsT_cons, startT, drop_bor, drop_lz, drop_dat, drop_cst, drop_well, drop_lst, drop_tup, drop_dic, drop_ins, opn_bor, opn_lz, opn_dat, opn_cst, opn_well, opn_lst, opn_tup, opn_dic, opn_ins, cls_bor, cls_lz, cls_dat, cls_cst, cls_well, cls_lst, cls_tup, cls_dic, cls_ins, clsAll_nil, clsAll_some, clsAll_none, Hz.putAt, putc_lst, putc_tup, putc_ins, child_lst, child_tup, child_ins, get_nil, get_cons, put_nil, put_cons, putFT, mask, List.getElem?_cons_zero, List.getElem?_cons_succ, List.set_cons_zero, List.set_cons_succ, Option.join_some, Option.map_some, Option.map_none, Option.bind_some, Option.bind_none, ite_true, ite_false, if_true, if_false, eq_self, Int.reduceToNat, Int.toNat_zero, Int.toNat_one, Int.reduceToNat, List.replicate_zero, List.replicate_succ, List.length_cons, List.length_nil, List.map_cons, List.map_nil, List.cons_append, List.nil_append, Nat.reduceSub, Nat.reduceAdd, Nat.zero_add, fp_Regions_0_n, fp_Regions_1_end, fp_Regions_2_ends, fp_Regions_3_n, fp_Regions_3_end, fp_Regions_3_ends, fp_Regions_3_UinitU, fp_Regions_3_take, fp_Regions_3_mark, fp_Regions_3_back, fp_Regions_3_top, fp_Regions_3_marks, fp_Regions_3_twin, fp_Regions_3_UeqU, fp_Regions_3_UneU] | exact rfl)
            refine ⟨rok_int (by have := ok.e0; have := ok.en; have := ok.n2; omega), ?_⟩
            repeat (first | refine And.intro rfl ?_ | apply Exists.intro | refine And.intro (Nat.le_of_ble_eq_true rfl) ?_ | refine And.intro (by decide) ?_ | refine And.intro ⟨_, _, rfl, rfl⟩ ?_ | refine And.intro ⟨_, _, rfl, rfl, rfl⟩ ?_ | refine And.intro (Hz.copy_map _ _) ?_ | refine And.intro (Hz.all_cut (Hz.copy_map _ _)) ?_ | refine And.intro (Hz.pys_map _ _) ?_ | refine And.intro (Hz.real_map _ _) ?_ | refine And.intro Hz.insNo ?_ | refine And.intro (Hz.insOnly tx.i_Regions) ?_ | refine And.intro (Hz.shaped_pl (by ((repeat' (first | exact Hz.pl_int | exact Hz.pl_bool | exact Hz.pl_none | refine Hz.pl_list ?_ | refine Hz.pl_tuple ?_ | exact Hz.plA_nil | refine Hz.plA_cons ?_ ?_ | refine Hz.plA_map (fun _ => ?_) _)); done))) ?_ | refine And.intro (.own _) ?_ | refine And.intro Hz.kit_self ?_ | refine And.intro Hz.notFirst_self ?_ | refine And.intro (show CMul _ _ from .inl ⟨by decide, by decide⟩) ?_ | refine And.intro (show CMul _ _ from .inr ⟨by decide, by decide⟩) ?_ | refine And.intro (show CMod _ _ from (by decide : (0 : Int) < _)) ?_ | refine And.intro (show CDiv _ _ from ⟨by decide, by decide⟩) ?_ | refine And.intro (show CPow _ _ from ⟨by decide, by decide, by decide⟩) ?_ | refine Or.inl (Exists.intro _ (And.intro rfl ?_)) | refine Or.inr (Exists.intro _ (And.intro rfl ?_)) | refine (fun (_ : V) => ?_) | refine (fun (_ : True) => ?_) | simp only [give_dat, give_cst, give_well, pys_nil, pys_consE, py_dat, py_lstE, py_tupE, pys_mapI, pys_mapD, dropsT_nil, dropsT_cons, startT, drop_bor, drop_lz, drop_dat, drop_cst, drop_well, drop_lst, drop_tup, drop_dic, drop_ins, opn_bor, opn_lz, opn_dat, opn_cst, opn_well, opn_lst, opn_tup, opn_dic, opn_ins, cls_bor, cls_lz, cls_dat, cls_cst, cls_well, cls_lst, cls_tup, cls_dic, cls_ins, clsAll_nil, clsAll_some, clsAll_none, Hz.putAt, putc_lst, putc_tup, putc_ins, child_lst, child_tup, child_ins, get_nil, get_cons, put_nil, put_cons, putFT, mask, List.getElem?_cons_zero, List.getElem?_cons_succ, List.set_cons_zero, List.set_cons_succ, Option.join_some, Option.map_some, Option.map_none, Option.bind_some, Option.bind_none, ite_true, ite_false, if_true, if_false, eq_self, Int.reduceToNat, Int.toNat_zero, Int.toNat_one, Int.reduceToNat, List.replicate_zero, List.replicate_succ, List.length_cons, List.length_nil, List.map_cons, List.map_nil, List.cons_append, List.nil_append, Nat.reduceSub, Nat.reduceAdd, Nat.zero_add, fp_Regions_0_n, fp_Regions_1_end, fp_Regions_2_ends, fp_Regions_3_n, fp_Regions_3_end, fp_Regions_3_ends, fp_Regions_3_UinitU, fp_Regions_3_take, fp_Regions_3_mark, fp_Regions_3_back, fp_Regions_3_top, fp_Regions_3_marks, fp_Regions_3_twin, fp_Regions_3_UeqU, fp_Regions_3_UneU] | exact rfl)
            refine ⟨rok_int (by have := ok.e0; have := ok.en; have := ok.n2; omega), ?_⟩
            repeat (first | refine And.intro rfl ?_ | apply Exists.intro | refine And.intro (Nat.le_of_ble_eq_true rfl) ?_ | refine And.intro (by decide) ?_ | refine And.intro ⟨_, _, rfl, rfl⟩ ?_ | refine And.intro ⟨_, _, rfl, rfl, rfl⟩ ?_ | refine And.intro (Hz.copy_map _ _) ?_ | refine And.intro (Hz.all_cut (Hz.copy_map _ _)) ?_ | refine And.intro (Hz.pys_map _ _) ?_ | refine And.intro (Hz.real_map _ _) ?_ | refine And.intro Hz.insNo ?_ | refine And.intro (Hz.insOnly tx.i_Regions) ?_ | refine And.intro (Hz.shaped_pl (by ((repeat' (first | exact Hz.pl_int | exact Hz.pl_bool | exact Hz.pl_none | refine Hz.pl_list ?_ | refine Hz.pl_tuple ?_ | exact Hz.plA_nil | refine Hz.plA_cons ?_ ?_ | refine Hz.plA_map (fun _ => ?_) _)); done))) ?_ | refine And.intro (.own _) ?_ | refine And.intro Hz.kit_self ?_ | refine And.intro Hz.notFirst_self ?_ | refine And.intro (show CMul _ _ from .inl ⟨by decide, by decide⟩) ?_ | refine And.intro (show CMul _ _ from .inr ⟨by decide, by decide⟩) ?_ | refine And.intro (show CMod _ _ from (by decide : (0 : Int) < _)) ?_ | refine And.intro (show CDiv _ _ from ⟨by decide, by decide⟩) ?_ | refine And.intro (show CPow _ _ from ⟨by decide, by decide, by decide⟩) ?_ | refine Or.inl (Exists.intro _ (And.intro rfl ?_)) | refine Or.inr (Exists.intro _ (And.intro rfl ?_)) | refine (fun (_ : V) => ?_) | refine (fun (_ : True) => ?_) | simp only [give_dat, give_cst, give_well, pys_nil, pys_consE, py_dat, py_lstE, py_tupE, pys_mapI, pys_mapD, dropsT_nil, dropsT_cons, startT, drop_bor, drop_lz, drop_dat, drop_cst, drop_well, drop_lst, drop_tup, drop_dic, drop_ins, opn_bor, opn_lz, opn_dat, opn_cst, opn_well, opn_lst, opn_tup, opn_dic, opn_ins, cls_bor, cls_lz, cls_dat, cls_cst, cls_well, cls_lst, cls_tup, cls_dic, cls_ins, clsAll_nil, clsAll_some, clsAll_none, Hz.putAt, putc_lst, putc_tup, putc_ins, child_lst, child_tup, child_ins, get_nil, get_cons, put_nil, put_cons, putFT, mask, List.getElem?_cons_zero, List.getElem?_cons_succ, List.set_cons_zero, List.set_cons_succ, Option.join_some, Option.map_some, Option.map_none, Option.bind_some, Option.bind_none, ite_true, ite_false, if_true, if_false, eq_self, Int.reduceToNat, Int.toNat_zero, Int.toNat_one, Int.reduceToNat, List.replicate_zero, List.replicate_succ, List.length_cons, List.length_nil, List.map_cons, List.map_nil, List.cons_append, List.nil_append, Nat.reduceSub, Nat.reduceAdd, Nat.zero_add, fp_Regions_0_n, fp_Regions_1_end, fp_Regions_2_ends, fp_Regions_3_n, fp_Regions_3_end, fp_Regions_3_ends, fp_Regions_3_UinitU, fp_Regions_3_take, fp_Regions_3_mark, fp_Regions_3_back, fp_Regions_3_top, fp_Regions_3_marks, fp_Regions_3_twin, fp_Regions_3_UeqU, fp_Regions_3_UneU] | exact rfl)
            exact hp _ _ ok'
theorem ok__law_step {P : Program} {w : World} {K : PySem.W.Frag} {mg : Str → Option Value} {base : Heap} {a : Ad} (T : Tx K mg a) : FnG P w K mg base CX0 3 a.f__law_step a.d__law_step ["well", "regions", "state"] (spT K wellO (W__law_step a)) :=
  fn_T [0, 1, 2] T.F__law_step sc__law_step (fun ts post ep h => len__law_step h) (fun cdv A outer s H E hr hg => ⟨_, w__law_step K a,
  (pss_cons (ps_set (i := 3) sc__law_step.nd rfl (Or.inl rfl) (pg_call (ok__law_draw T) (by exact hr.mono (by decide)) (by exact hg) (by rfl) (by exact T.g__law_draw) (by exact T.F__law_draw.kp) T.b__law_draw_2 passG (pa_cons (pv 0) (pa_cons pe_int pa_nil))))
  (pss_cons (ps_if (pt_cmpR op_lt (pv 3) pe_int (nomark _)) (pss_cons (ps_set (i := 4) sc__law_step.nd rfl (Or.inl rfl) (pe_op op_add pe_int (pg_call (ok__law_draw T) (by exact hr.mono (by decide)) (by exact hg) (by rfl) (by exact T.g__law_draw) (by exact T.F__law_draw.kp) T.b__law_draw_2 passG (pa_cons (pv 0) (pa_cons (pe_ix ix_seq (pe_lst (pa_cons pe_int (pa_cons pe_int (pa_cons pe_int pa_nil)))) (pg_call (ok__law_draw T) (by exact hr.mono (by decide)) (by exact hg) (by rfl) (by exact T.g__law_draw) (by exact T.F__law_draw.kp) T.b__law_draw_2 passG (pa_cons (pv 0) (pa_cons pe_int pa_nil))) (fun _ _ => rfl)) pa_nil)))))
  (pss_cons (ps_set (i := 5) sc__law_step.nd rfl (Or.inl rfl) (pe_ifExp (pt_cmpR op_le (pe_op op_add (pe_ix ix_seq (pv 2) pe_int (fun _ _ => rfl)) (pv 4)) (pe_ix ix_seq (pv 2) pe_int (fun _ _ => rfl)) (nomark _)) (pe_ix ix_seq (pv 2) pe_int (fun _ _ => rfl)) pe_non))
  (pss_cons (ps_if (pt_cmp (pc_notN (pv 5))) (pss_one (ps_asg (pe_op op_add (pe_ix ix_seq (pv 2) pe_int (fun _ _ => rfl)) (pv 4)) (pg_sub (pv 2) pe_int set_list))) pss_nil)
  (pss_one (ps_ret (pe_cmpR op_eq (pe_callB (call_repr (by exact hg) (by exact room65 hr)) (by rfl) (by exact T.z_repr) bt_repr (pa_cons (pe_ifExp (pt_cmpR op_lt (pv 3) pe_int (nomark _)) (pg_meth (pv 1) T.c_Regions T.M_Regions_take (ok_Regions_take T) (by exact hr.mono (by decide)) (by exact hg) T.b_Regions_take_1 passG (pa_cons (pv 4) pa_nil)) (pg_methK0 (pv 1) T.c_Regions T.M_Regions_take (ok_Regions_take T) (by exact hr.mono (by decide)) (by exact hg) T.b_Regions_take_0_size passG (pk_cons (pv 4) pk_nil))) pa_nil)) (pe_callB (call_repr (by exact hg) (by exact room65 hr)) (by rfl) (by exact T.z_repr) bt_repr (pa_cons (pv 5) pa_nil)) (nomark _))))))) pss_nil)
  (pss_cons (ps_if (PW.pt (pw_or (pt_cmpR op_lt (pv 3) pe_int (nomark _)) (pw_or1 (pt_cmpR (op_eqD (by exact room64 hr)) (pe_ix ix_seq (pv 2) pe_int (fun _ _ => rfl)) (pe_lst pa_nil) (nomark _))))) (pss_cons (ps_asg (pe_op op_cat (pe_ix ix_seq (pv 2) pe_int (fun _ _ => rfl)) (pe_lst (pa_cons (pe_ix ix_seq (pv 2) pe_int (fun _ _ => rfl)) pa_nil))) (pg_sub (pv 2) pe_int set_list))
  (pss_one (ps_ret (pe_cmpR op_eq (pe_callB (call_repr (by exact hg) (by exact room65 hr)) (by rfl) (by exact T.z_repr) bt_repr (pa_cons (pg_meth0 (pv 1) T.c_Regions T.M_Regions_mark (ok_Regions_mark T) (by exact hr.mono (by decide)) (by exact hg) T.b_Regions_mark_0 passG) pa_nil)) (pe_callB (call_repr (by exact hg) (by exact room65 hr)) (by rfl) (by exact T.z_repr) bt_repr (pa_cons (pe_op op_sub (pe_callB call_len (by rfl) (by exact T.z_len) bt_len (pa_cons (pe_ix ix_seq (pv 2) pe_int (fun _ _ => rfl)) pa_nil)) pe_int) pa_nil)) (nomark _))))) pss_nil)
  (pss_cons (ps_set (i := 6) sc__law_step.nd rfl (Or.inl rfl) (pg_call (ok__law_draw T) (by exact hr.mono (by decide)) (by exact hg) (by rfl) (by exact T.g__law_draw) (by exact T.F__law_draw.kp) T.b__law_draw_2 passG (pa_cons (pv 0) (pa_cons (pe_callB call_len (by rfl) (by exact T.z_len) bt_len (pa_cons (pe_ix ix_seq (pv 2) pe_int (fun _ _ => rfl)) pa_nil)) pa_nil))))
  (pss_cons (ps_set (i := 5) sc__law_step.nd rfl (Or.inl rfl) (pe_op op_sub (pe_ix ix_seq (pv 2) pe_int (fun _ _ => rfl)) (pe_ix ix_seq (pe_ix ix_seq (pv 2) pe_int (fun _ _ => rfl)) (pv 6) (fun _ _ => rfl))))
  (pss_cons (ps_asg (pe_tup (pa_cons (pe_ix ix_seq (pe_ix ix_seq (pv 2) pe_int (fun _ _ => rfl)) (pv 6) (fun _ _ => rfl)) (pa_cons (pe_slice sl_list (pe_ix ix_seq (pv 2) pe_int (fun _ _ => rfl)) po_none (po_some (pv 6))) pa_nil))) (pg_tup rfl (pgs_cons (pg_sub (pv 2) pe_int set_list) (pgs_cons (pg_sub (pv 2) pe_int set_list) pgs_nil))))
  (pss_one (ps_ret (pe_cmpR op_eq (pe_callB (call_repr (by exact hg) (by exact room65 hr)) (by rfl) (by exact T.z_repr) bt_repr (pa_cons (pe_ifExp (pt_cmpR (op_eqD (by exact room64 hr)) (pv 3) pe_int (nomark _)) (pg_meth (pv 1) T.c_Regions T.M_Regions_back (ok_Regions_back T) (by exact hr.mono (by decide)) (by exact hg) T.b_Regions_back_1 passG (pa_cons (pv 6) pa_nil)) (pg_methK0 (pv 1) T.c_Regions T.M_Regions_back (ok_Regions_back T) (by exact hr.mono (by decide)) (by exact hg) T.b_Regions_back_0_mark passG (pk_cons (pv 6) pk_nil))) pa_nil)) (pe_callB (call_repr (by exact hg) (by exact room65 hr)) (by rfl) (by exact T.z_repr) bt_repr (pa_cons (pv 5) pa_nil)) (nomark _)))))))))),
  (sv_seq (sv_asg (ev_call (Wf := W__law_draw a) (n := 2) (m := 0) mk_pos (ea_cons ev_var (ea_cons ev_int ea_nil)) ea_nil) (g_name (by decide)))
  (sv_seq (sv_if (et_test (ev_lt ev_var ev_int)) (sv_seq (sv_asg (ev_add ev_int (ev_call (Wf := W__law_draw a) (n := 2) (m := 0) mk_pos (ea_cons ev_var (ea_cons (ev_op2 op_ix (ev_lst (ea_cons ev_int (ea_cons ev_int (ea_cons ev_int ea_nil)))) (ev_call (Wf := W__law_draw a) (n := 2) (m := 0) mk_pos (ea_cons ev_var (ea_cons ev_int ea_nil)) ea_nil)) ea_nil)) ea_nil)) (g_name (by decide)))
  (sv_seq (sv_asg (ev_if (et_test (ev_le (ev_add (ev_op2 op_ix ev_var ev_int) ev_var) (ev_op2 op_ix ev_var ev_int))) (ev_op2 op_ix ev_var ev_int) ev_non) (g_name (by decide)))
  (sv_seq (sv_if (et_B (ev_notN ev_var)) (sv_asg (ev_add (ev_op2 op_ix ev_var ev_int) ev_var) (g_sub ev_var ev_int)) sv_next)
  (sv_ret (ev_eqT (ev_call1 op_repr (ev_if (et_test (ev_lt ev_var ev_int)) (ev_meth (Wf := W_Regions_take a) (n := 1) (m := 0) mk_pos ev_var (ea_cons ev_var ea_nil) ea_nil) (ev_meth (Wf := W_Regions_take a) (n := 0) (m := 1) mk_app ev_var ea_nil (ea_cons ev_var ea_nil)))) (ev_call1 op_repr ev_var)))))) sv_next)
  (sv_seq (sv_if (et_or (et_test (ev_lt ev_var ev_int)) (et_test (ev_eq (ev_op2 op_ix ev_var ev_int) (ev_lst ea_nil)))) (sv_stop (sv_seq (sv_asg (ev_op2 Hz.op_cat (ev_op2 op_ix ev_var ev_int) (ev_lst (ea_cons (ev_op2 op_ix ev_var ev_int) ea_nil))) (g_sub ev_var ev_int))
  (sv_ret (ev_eqT (ev_call1 op_repr (ev_meth (Wf := W_Regions_mark a) (n := 0) (m := 0) mk_pos ev_var ea_nil ea_nil)) (ev_call1 op_repr (ev_sub (ev_call1 op_len (ev_op2 op_ix ev_var ev_int)) ev_int)))))) sv_next)
  (sv_seq (sv_asg (ev_call (Wf := W__law_draw a) (n := 2) (m := 0) mk_pos (ea_cons ev_var (ea_cons (ev_call1 op_len (ev_op2 op_ix ev_var ev_int)) ea_nil)) ea_nil) (g_name (by decide)))
  (sv_seq (sv_asg (ev_sub (ev_op2 op_ix ev_var ev_int) (ev_op2 op_ix (ev_op2 op_ix ev_var ev_int) ev_var)) (g_name (by decide)))
  (sv_seq (sv_asg (ev_tupO (ea_cons (ev_op2 op_ix (ev_op2 op_ix ev_var ev_int) ev_var) (ea_cons (ev_sl (ev_op2 op_ix ev_var ev_int) eo_none (eo_some ev_var)) ea_nil))) (g_tup (g_cons (g_sub ev_var ev_int) (g_cons (g_sub ev_var ev_int) g_nil))))
  (sv_ret (ev_eqT (ev_call1 op_repr (ev_if (et_test (ev_eq ev_var ev_int)) (ev_meth (Wf := W_Regions_back a) (n := 1) (m := 0) mk_pos ev_var (ea_cons ev_var ea_nil) ea_nil) (ev_meth (Wf := W_Regions_back a) (n := 0) (m := 1) mk_app ev_var ea_nil (ea_cons ev_var ea_nil)))) (ev_call1 op_repr ev_var))))))))),
  law__law_step T⟩)

def W__law_shows (a : Ad) : SpT := fun ts post _ => ∃ (n e : Int) (es : List Int), ts = [RgT a.C_Regions n e es, StT n e es] ∧ Inv1 fun b : Nat => b ≤ 500 ∧ Ok b n e es ∧ post (tBo true) [some (RgT a.C_Regions n e es), some (StT n e es)]
theorem len__law_shows {a : Ad} {ts : List T} {post : T → Rho → Prop} {ep : Addr → T → Rho → Prop} (h : W__law_shows a ts post ep) : ts.length = 2 := by
  obtain ⟨n, e, es, rfl, _⟩ := h
  rfl

def w__law_shows (K : PySem.W.Frag) (a : Ad) : WS := (sRt (w2 (sEqT false) (w1 sRepr (wLst (aCons (wMeth a.C_Regions "top" 0 0 (fun us _ => us) (W_Regions_top a) (wVar 0) aNil aNil) (aCons (wMeth a.C_Regions "marks" 0 0 (fun us _ => us) (W_Regions_marks a) (wVar 0) aNil aNil) aNil)))) (w1 sRepr (wLst (aCons (w2 sIx (wVar 1) (wC (.int 1))) (aCons (w1 sTuple (w2 sIx (wVar 1) (wC (.int 2)))) aNil))))))

theorem law__law_shows {K : PySem.W.Frag} {mg : Str → Option Value} {a : Ad} (tx : Tx K mg a) : ∀ ts post ep, W__law_shows a ts post ep → ts.length = 2 → w__law_shows K a (outO [0, 1] 2 post) (outX [0, 1] 2 ep) (startT 2 ts) := by
  rintro ts post ep ⟨n, e, es, rfl, b, hb, ok, hp⟩ -
  have rok : ReprOk (PyData.list [PyData.int e, PyData.tuple (List.map PyData.int es)]) := by
    obtain ⟨a1, a2⟩ := small_int (i := e) (by have := ok.e0; have := ok.en; have := ok.n2; omega)
    obtain ⟨b1, b2⟩ := small_ints (es := es) (fun x hx => by have := ok.at_ x hx; have := ok.n2; omega)
    refine reprOk ?_ ?_ ?_
    · show (showB (.int e) && (showBs (es.map .int) && true)) = true
      rw [a1, b1]
      rfl
    · show cost (.int e) + 2 + ((costs (es.map .int) + 3) + 2 + 0) + 3 ≤ 16000000
      have := ok.len
      omega
    · have := depth_map (f := PyData.int) (k := 0) (fun _ => Nat.le_refl _) es
      show max 0 (max (PyData.depthAll (es.map .int) + 1) 0) + 1 ≤ 60
      omega
  repeat (first | refine And.intro rfl ?_ | apply Exists.intro | refine And.intro (Nat.le_of_ble_eq_true rfl) ?_ | refine And.intro (by decide) ?_ | refine And.intro ⟨_, _, rfl, rfl⟩ ?_ | refine And.intro ⟨_, _, rfl, rfl, rfl⟩ ?_ | refine And.intro (Hz.copy_map _ _) ?_ | refine And.intro (Hz.all_cut (Hz.copy_map _ _)) ?_ | refine And.intro (Hz.pys_map _ _) ?_ | refine And.intro (Hz.real_map _ _) ?_ | refine And.intro Hz.insNo ?_ | refine And.intro (Hz.insOnly tx.i_Regions) ?_ | refine And.intro (Hz.shaped_pl (by ((repeat' (first | exact Hz.pl_int | exact Hz.pl_bool | exact Hz.pl_none | refine Hz.pl_list ?_ | refine Hz.pl_tuple ?_ | exact Hz.plA_nil | refine Hz.plA_cons ?_ ?_ | refine Hz.plA_map (fun _ => ?_) _)); done))) ?_ | refine And.intro (.own _) ?_ | refine And.intro Hz.kit_self ?_ | refine And.intro Hz.notFirst_self ?_ | refine And.intro (show CMul _ _ from .inl ⟨by decide, by decide⟩) ?_ | refine And.intro (show CMul _ _ from .inr ⟨by decide, by decide⟩) ?_ | refine And.intro (show CMod _ _ from (by decide : (0 : Int) < _)) ?_ | refine And.intro (show CDiv _ _ from ⟨by decide, by decide⟩) ?_ | refine And.intro (show CPow _ _ from ⟨by decide, by decide, by decide⟩) ?_ | refine Or.inl (Exists.intro _ (And.intro rfl ?_)) | refine Or.inr (Exists.intro _ (And.intro rfl ?_)) | refine (fun (_ : V) => ?_) | refine (fun (_ : True) => ?_) | simp only [give_dat, give_cst, give_well, pys_nil, pys_consE, py_dat, py_lstE, py_tupE, pys_mapI, pys_mapD, dropsT_nil, dropsT_cons, startT, drop_bor, drop_lz, drop_dat, drop_cst, drop_well, drop_lst, drop_tup, drop_dic, drop_ins, opn_bor, opn_lz, opn_dat, opn_cst, opn_well, opn_lst, opn_tup, opn_dic, opn_ins, cls_bor, cls_lz, cls_dat, cls_cst, cls_well, cls_lst, cls_tup, cls_dic, cls_ins, clsAll_nil, clsAll_some, clsAll_none, Hz.putAt, putc_lst, putc_tup, putc_ins, child_lst, child_tup, child_ins, get_nil, get_cons, put_nil, put_cons, putFT, mask, List.getElem?_cons_zero, List.getElem?_cons_succ, List.set_cons_zero, List.set_cons_succ, Option.join_some, Option.map_some, Option.map_none, Option.bind_some, Option.bind_none, ite_true, ite_false, if_true, if_false, eq_self, Int.reduceToNat, Int.toNat_zero, Int.toNat_one, Int.reduceToNat, List.replicate_zero, List.replicate_succ, List.length_cons, List.length_nil, List.map_cons, List.map_nil, List.cons_append, List.nil_append, Nat.reduceSub, Nat.reduceAdd, Nat.zero_add, fp_Regions_0_n, fp_Regions_1_end, fp_Regions_2_ends, fp_Regions_3_n, fp_Regions_3_end, fp_Regions_3_ends, fp_Regions_3_UinitU, fp_Regions_3_take, fp_Regions_3_mark, fp_Regions_3_back, fp_Regions_3_top, fp_Regions_3_marks, fp_Regions_3_twin, fp_Regions_3_UeqU, fp_Regions_3_UneU] | exact rfl)
  refine ⟨rok, ?_⟩
  repeat (first | refine And.intro rfl ?_ | apply Exists.intro | refine And.intro (Nat.le_of_ble_eq_true rfl) ?_ | refine And.intro (by decide) ?_ | refine And.intro ⟨_, _, rfl, rfl⟩ ?_ | refine And.intro ⟨_, _, rfl, rfl, rfl⟩ ?_ | refine And.intro (Hz.copy_map _ _) ?_ | refine And.intro (Hz.all_cut (Hz.copy_map _ _)) ?_ | refine And.intro (Hz.pys_map _ _) ?_ | refine And.intro (Hz.real_map _ _) ?_ | refine And.intro Hz.insNo ?_ | refine And.intro (Hz.insOnly tx.i_Regions) ?_ | refine And.intro (Hz.shaped_pl (by ((repeat' (first | exact Hz.pl_int | exact Hz.pl_bool | exact Hz.pl_none | refine Hz.pl_list ?_ | refine Hz.pl_tuple ?_ | exact Hz.plA_nil | refine Hz.plA_cons ?_ ?_ | refine Hz.plA_map (fun _ => ?_) _)); done))) ?_ | refine And.intro (.own _) ?_ | refine And.intro Hz.kit_self ?_ | refine And.intro Hz.notFirst_self ?_ | refine And.intro (show CMul _ _ from .inl ⟨by decide, by decide⟩) ?_ | refine And.intro (show CMul _ _ from .inr ⟨by decide, by decide⟩) ?_ | refine And.intro (show CMod _ _ from (by decide : (0 : Int) < _)) ?_ | refine And.intro (show CDiv _ _ from ⟨by decide, by decide⟩) ?_ | refine And.intro (show CPow _ _ from ⟨by decide, by decide, by decide⟩) ?_ | refine Or.inl (Exists.intro _ (And.intro rfl ?_)) | refine Or.inr (Exists.intro _ (And.intro rfl ?_)) | refine (fun (_ : V) => ?_) | refine (fun (_ : True) => ?_) | simp only [give_dat, give_cst, give_well, pys_nil, pys_consE, py_dat, py_lstE, py_tupE, pys_mapI, pys_mapD, dropsT_nil, dropsT_cons, startT, drop_bor, drop_lz, drop_dat, drop_cst, drop_well, drop_lst, drop_tup, drop_dic, drop_ins, opn_bor, opn_lz, opn_dat, opn_cst, opn_well, opn_lst, opn_tup, opn_dic, opn_ins, cls_bor, cls_lz, cls_dat, cls_cst, cls_well, cls_lst, cls_tup, cls_dic, cls_ins, clsAll_nil, clsAll_some, clsAll_none, Hz.putAt, putc_lst, putc_tup, putc_ins, child_lst, child_tup, child_ins, get_nil, get_cons, put_nil, put_cons, putFT, mask, List.getElem?_cons_zero, List.getElem?_cons_succ, List.set_cons_zero, List.set_cons_succ, Option.join_some, Option.map_some, Option.map_none, Option.bind_some, Option.bind_none, ite_true, ite_false, if_true, if_false, eq_self, Int.reduceToNat, Int.toNat_zero, Int.toNat_one, Int.reduceToNat, List.replicate_zero, List.replicate_succ, List.length_cons, List.length_nil, List.map_cons, List.map_nil, List.cons_append, List.nil_append, Nat.reduceSub, Nat.reduceAdd, Nat.zero_add, fp_Regions_0_n, fp_Regions_1_end, fp_Regions_2_ends, fp_Regions_3_n, fp_Regions_3_end, fp_Regions_3_ends, fp_Regions_3_UinitU, fp_Regions_3_take, fp_Regions_3_mark, fp_Regions_3_back, fp_Regions_3_top, fp_Regions_3_marks, fp_Regions_3_twin, fp_Regions_3_UeqU, fp_Regions_3_UneU] | exact rfl)
  refine ⟨rok, ?_⟩
  repeat (first | refine And.intro rfl ?_ | apply Exists.intro | refine And.intro (Nat.le_of_ble_eq_true rfl) ?_ | refine And.intro (by decide) ?_ | refine And.intro ⟨_, _, rfl, rfl⟩ ?_ | refine And.intro ⟨_, _, rfl, rfl, rfl⟩ ?_ | refine And.intro (Hz.copy_map _ _) ?_ | refine And.intro (Hz.all_cut (Hz.copy_map _ _)) ?_ | refine And.intro (Hz.pys_map _ _) ?_ | refine And.intro (Hz.real_map _ _) ?_ | refine And.intro Hz.insNo ?_ | refine And.intro (Hz.insOnly tx.i_Regions) ?_ | refine And.intro (Hz.shaped_pl (by ((repeat' (first | exact Hz.pl_int | exact Hz.pl_bool | exact Hz.pl_none | refine Hz.pl_list ?_ | refine Hz.pl_tuple ?_ | exact Hz.plA_nil | refine Hz.plA_cons ?_ ?_ | refine Hz.plA_map (fun _ => ?_) _)); done))) ?_ | refine And.intro (.own _) ?_ | refine And.intro Hz.kit_self ?_ | refine And.intro Hz.notFirst_self ?_ | refine And.intro (show CMul _ _ from .inl ⟨by decide, by decide⟩) ?_ | refine And.intro (show CMul _ _ from .inr ⟨by decide, by decide⟩) ?_ | refine And.intro (show CMod _ _ from (by decide : (0 : Int) < _)) ?_ | refine And.intro (show CDiv _ _ from ⟨by decide, by decide⟩) ?_ | refine And.intro (show CPow _ _ from ⟨by decide, by decide, by decide⟩) ?_ | refine Or.inl (Exists.intro _ (And.intro rfl ?_)) | refine Or.inr (Exists.intro _ (And.intro rfl ?_)) | refine (fun (_ : V) => ?_) | refine (fun (_ : True) => ?_) | simp only [give_dat, give_cst, give_well, pys_nil, pys_consE, py_dat, py_lstE, py_tupE, pys_mapI, pys_mapD, dropsT_nil, dropsT_cons, startT, drop_bor, drop_lz, drop_dat, drop_cst, drop_well, drop_lst, drop_tup, drop_dic, drop_ins, opn_bor, opn_lz, opn_dat, opn_cst, opn_well, opn_lst, opn_tup, opn_dic, opn_ins, cls_bor, cls_lz, cls_dat, cls_cst, cls_well, cls_lst, cls_tup, cls_dic, cls_ins, clsAll_nil, clsAll_some, clsAll_none, Hz.putAt, putc_lst, putc_tup, putc_ins, child_lst, child_tup, child_ins, get_nil, get_cons, put_nil, put_cons, putFT, mask, List.getElem?_cons_zero, List.getElem?_cons_succ, List.set_cons_zero, List.set_cons_succ, Option.join_some, Option.map_some, Option.map_none, Option.bind_some, Option.bind_none, ite_true, ite_false, if_true, if_false, eq_self, Int.reduceToNat, Int.toNat_zero, Int.toNat_one, Int.reduceToNat, List.replicate_zero, List.replicate_succ, List.length_cons, List.length_nil, List.map_cons, List.map_nil, List.cons_append, List.nil_append, Nat.reduceSub, Nat.reduceAdd, Nat.zero_add, fp_Regions_0_n, fp_Regions_1_end, fp_Regions_2_ends, fp_Regions_3_n, fp_Regions_3_end, fp_Regions_3_ends, fp_Regions_3_UinitU, fp_Regions_3_take, fp_Regions_3_mark, fp_Regions_3_back, fp_Regions_3_top, fp_Regions_3_marks, fp_Regions_3_twin, fp_Regions_3_UeqU, fp_Regions_3_UneU] | exact rfl)
  exact hp
theorem ok__law_shows {P : Program} {w : World} {K : PySem.W.Frag} {mg : Str → Option Value} {base : Heap} {a : Ad} (T : Tx K mg a) : FnG P w K mg base CX0 2 a.f__law_shows a.d__law_shows ["regions", "state"] (spT K wellO (W__law_shows a)) :=
  fn_T [0, 1] T.F__law_shows sc__law_shows (fun ts post ep h => len__law_shows h) (fun cdv A outer s H E hr hg => ⟨_, w__law_shows K a,
  (pss_one (ps_ret (pe_cmpR op_eq (pe_callB (call_repr (by exact hg) (by exact room65 hr)) (by rfl) (by exact T.z_repr) bt_repr (pa_cons (pe_lst (pa_cons (pg_meth0 (pv 0) T.c_Regions T.M_Regions_top (ok_Regions_top T) (by exact hr.mono (by decide)) (by exact hg) T.b_Regions_top_0 passG) (pa_cons (pg_meth0 (pv 0) T.c_Regions T.M_Regions_marks (ok_Regions_marks T) (by exact hr.mono (by decide)) (by exact hg) T.b_Regions_marks_0 passG) pa_nil))) pa_nil)) (pe_callB (call_repr (by exact hg) (by exact room65 hr)) (by rfl) (by exact T.z_repr) bt_repr (pa_cons (pe_lst (pa_cons (pe_ix ix_seq (pv 1) pe_int (fun _ _ => rfl)) (pa_cons (pe_callTy call_tuple_of (by rfl) (by exact T.z_tuple) bt_tuple (pa_cons (pe_ix ix_seq (pv 1) pe_int (fun _ _ => rfl)) pa_nil)) pa_nil))) pa_nil)) (nomark _)))),
  (sv_ret (ev_eqT (ev_call1 op_repr (ev_lst (ea_cons (ev_meth (Wf := W_Regions_top a) (n := 0) (m := 0) mk_pos ev_var ea_nil ea_nil) (ea_cons (ev_meth (Wf := W_Regions_marks a) (n := 0) (m := 0) mk_pos ev_var ea_nil ea_nil) ea_nil)))) (ev_call1 op_repr (ev_lst (ea_cons (ev_op2 op_ix ev_var ev_int) (ea_cons (ev_call1 op_tuple (ev_op2 op_ix ev_var ev_int)) ea_nil)))))),
  law__law_shows T⟩)

end K64

namespace K64
open PySem L2 Hz
theorem len_law {ts : List T} {post : T → Rho → Prop} {ep : Addr → T → Rho → Prop} (h : lawW 63 ts post ep) : ts.length = 1 := by
  obtain ⟨n, rfl, _⟩ := h
  rfl
def AnyR (ns : List Int) (ρ : Rho) : Prop := ∃ x1 x2 x3 x4 x5 x6 x7 x8 x9 x10 x11 : Option T, ρ = [some (.dat (.list (ns.map .int))), x1, x2, x3, x4, x5, x6, x7, x8, x9, x10, x11]
def Iv2 (C : Addr) (ns : List Int) (k n other : Int) (b : Nat) (ρ : Rho) : Prop := ∃ (p e q f : Int) (es fs : List Int) (x7 x8 x9 x10 x11 : Option T),
  ρ = [some (.dat (.list (ns.map .int))), some (tI k), some .well, some (tI n), some (tI other), some (.lst [RgT C p e es, RgT C q f fs]), some (.lst [StT p e es, StT q f fs]), x7, x8, x9, x10, x11] ∧ Ok b p e es ∧ Ok b q f fs
/-- if _law_draw(well, 8) == 0: .. -/
def t_law_101 (K : PySem.W.Frag) (a : Ad) : WS := (sIf (bT (wEq false (wCall 2 0 (fun us _ => us) (W__law_draw a) (aCons (wVar 2) (aCons (wC (.int 8)) aNil)) aNil) (wC (.int 0)))) (sAs (wTupO (aCons (wMeth a.C_Regions "twin" 0 0 (fun us _ => us) (W_Regions_twin a) (w2 sIx (wVar 5) (wC (.int 0))) aNil aNil) (aCons (wLst (aCons (w2 sIx (w2 sIx (wVar 6) (wC (.int 0))) (wC (.int 0))) (aCons (w2 sIx (w2 sIx (wVar 6) (wC (.int 0))) (wC (.int 1))) (aCons (w1 sList (w2 sIx (w2 sIx (wVar 6) (wC (.int 0))) (wC (.int 2)))) aNil)))) aNil))) (gTp 2 (gCn (gIx (wVar 5) (wC (.int 1))) (gCn (gIx (wVar 6) (wC (.int 1))) gNl)))) sNx)
/-- if (pair[0] == pair[1]) != due or (pair[0] != pair[1]) == due or pair[0] == states[0] or (pair[0] == None): .. -/
def t_law_99 (K : PySem.W.Frag) (a : Ad) : WS := (sSq (sIf (bOr (bT (wEq true (wOwn K a.C_Regions (W_RegionsU_eqU a) (w2 sIx (wVar 5) (wC (.int 0))) (w2 sIx (wVar 5) (wC (.int 1)))) (wVar 11))) (bOr (bT (wEq false (wOwn K a.C_Regions (W_RegionsU_neU a) (w2 sIx (wVar 5) (wC (.int 0))) (w2 sIx (wVar 5) (wC (.int 1)))) (wVar 11))) (bOr (bT (wOwn K a.C_Regions (W_RegionsU_eqU a) (w2 sIx (wVar 5) (wC (.int 0))) (w2 sIx (wVar 6) (wC (.int 0))))) (bT (wOwn K a.C_Regions (W_RegionsU_eqU a) (w2 sIx (wVar 5) (wC (.int 0))) (wC .none)))))) (sRt (wC (.bool false))) sNx) (sStop (t_law_101 K a)))
/-- due = states[0] == states[1] .. -/
def t_law_98 (K : PySem.W.Frag) (a : Ad) : WS := (sSq (sAs (wEq false (w2 sIx (wVar 6) (wC (.int 0))) (w2 sIx (wVar 6) (wC (.int 1)))) (gN 11)) (t_law_99 K a))
/-- if [1 for own, state in zip(pair, states) if not _law_shows(own, state)] != []: .. -/
def t_law_96 (K : PySem.W.Frag) (a : Ad) : WS := (sSq (sIf (bT (wEq true (wLcZ (wVar 5) (wVar 6) 9 10 (bNot (bT (wCall 2 0 (fun us _ => us) (W__law_shows a) (aCons (wVar 9) (aCons (wVar 10) aNil)) aNil))) (wC (.int 1)) [9, 10]) (wLst aNil))) (sRt (wC (.bool false))) sNx) (t_law_98 K a))
/-- if not _law_step(well, pair[which], states[which]): .. -/
def t_law_94 (K : PySem.W.Frag) (a : Ad) : WS := (sSq (sIf (bNot (bT (wCall 3 0 (fun us _ => us) (W__law_step a) (aCons (wVar 2) (aCons (w2 sIx (wVar 5) (wVar 8)) (aCons (w2 sIx (wVar 6) (wVar 8)) aNil))) aNil))) (sRt (wC (.bool false))) sNx) (sStop (t_law_96 K a)))
/-- for turn in range(10 + _law_draw(well, 50)): .. -/
def t_law_92 (K : PySem.W.Frag) (a : Ad) : WS := (sFor (iR1 (wII0 iAdd (wC (.int 10)) (wCall 2 0 (fun us _ => us) (W__law_draw a) (aCons (wVar 2) (aCons (wC (.int 50)) aNil)) aNil))) (gN 7)
  (sSq (sAs (wCall 2 0 (fun us _ => us) (W__law_draw a) (aCons (wVar 2) (aCons (wC (.int 2)) aNil)) aNil) (gN 8)) (t_law_94 K a)))
/-- pair, states = ([Regions(n), Regions(n=other)], [[n, 0, []], [other, 0, []]]) .. -/
def t_law_91 (K : PySem.W.Frag) (a : Ad) : WS := (sSq (sPar 5 6 (aCons (wLst (aCons (wMake a.C_Regions 1 0 (fun us _ => us) (W_RegionsU_initU a) (aCons (wVar 3) aNil) aNil) (aCons (wMake a.C_Regions 0 1 (fun us zs => us ++ zs) (W_RegionsU_initU a) aNil (aCons (wVar 4) aNil)) aNil))) (aCons (wLst (aCons (wLst (aCons (wVar 3) (aCons (wC (.int 0)) (aCons (wLst aNil) aNil)))) (aCons (wLst (aCons (wVar 4) (aCons (wC (.int 0)) (aCons (wLst aNil) aNil)))) aNil))) aNil))) (t_law_92 K a))
/-- other = n if _law_draw(well, 3) > 0 else 1 + _law_draw(well, 400) .. -/
def t_law_90 (K : PySem.W.Frag) (a : Ad) : WS := (sSq (sAs (wIf (bT (wII0 bGt (wCall 2 0 (fun us _ => us) (W__law_draw a) (aCons (wVar 2) (aCons (wC (.int 3)) aNil)) aNil) (wC (.int 0)))) (wVar 3) (wII0 iAdd (wC (.int 1)) (wCall 2 0 (fun us _ => us) (W__law_draw a) (aCons (wVar 2) (aCons (wC (.int 400)) aNil)) aNil))) (gN 4)) (sStop (t_law_91 K a)))
/-- n = 1 + _law_draw(well, [9, 60, 400][_law_draw(well, 3)]) .. -/
def t_law_89 (K : PySem.W.Frag) (a : Ad) : WS := (sSq (sAs (wII0 iAdd (wC (.int 1)) (wCall 2 0 (fun us _ => us) (W__law_draw a) (aCons (wVar 2) (aCons (w2 sIx (wLst (aCons (wC (.int 9)) (aCons (wC (.int 60)) (aCons (wC (.int 400)) aNil)))) (wCall 2 0 (fun us _ => us) (W__law_draw a) (aCons (wVar 2) (aCons (wC (.int 3)) aNil)) aNil)) aNil)) aNil)) (gN 3)) (t_law_90 K a))
/-- return True .. -/
def t_law_103 (K : PySem.W.Frag) (a : Ad) : WS := (sRt (wC (.bool true)))
def w_law (K : PySem.W.Frag) (a : Ad) : WS := (sSq (sFor (iR1 (w2 (sII iMax) (wC (.int 1)) (w2 (sII iMin) (wC (.int 4)) (w1 sLen (wVar 0))))) (gN 1)
  (sSq (sAs (wCall 2 0 (fun us _ => us) (W__law_well a) (aCons (wVar 0) (aCons (wVar 1) aNil)) aNil) (gN 2)) (t_law_89 K a))) (t_law_103 K a))

theorem law_law {K : PySem.W.Frag} {mg : Str → Option Value} {a : Ad} (tx : Tx K mg a) : ∀ ts post ep, lawW 63 ts post ep → ts.length = 1 → w_law K a (outO [] 1 post) (outX [] 1 ep) (startT 12 ts) := by
  rintro ts post ep ⟨ns, rfl, h63, hp⟩ -
  repeat (first | refine And.intro rfl ?_ | apply Exists.intro | refine And.intro (Nat.le_of_ble_eq_true rfl) ?_ | refine And.intro (by decide) ?_ | refine And.intro ⟨_, _, rfl, rfl⟩ ?_ | refine And.intro ⟨_, _, rfl, rfl, rfl⟩ ?_ | refine And.intro (Hz.copy_map _ _) ?_ | refine And.intro (Hz.all_cut (Hz.copy_map _ _)) ?_ | refine And.intro (Hz.pys_map _ _) ?_ | refine And.intro (Hz.real_map _ _) ?_ | refine And.intro Hz.insNo ?_ | refine And.intro (Hz.insOnly tx.i_Regions) ?_ | refine And.intro (Hz.shaped_pl (by ((repeat' (first | exact Hz.pl_int | exact Hz.pl_bool | exact Hz.pl_none | refine Hz.pl_list ?_ | refine Hz.pl_tuple ?_ | exact Hz.plA_nil | refine Hz.plA_cons ?_ ?_ | refine Hz.plA_map (fun _ => ?_) _)); done))) ?_ | refine And.intro (.own _) ?_ | refine And.intro Hz.kit_self ?_ | refine And.intro Hz.notFirst_self ?_ | refine And.intro (show CMul _ _ from .inl ⟨by decide, by decide⟩) ?_ | refine And.intro (show CMul _ _ from .inr ⟨by decide, by decide⟩) ?_ | refine And.intro (show CMod _ _ from (by decide : (0 : Int) < _)) ?_ | refine And.intro (show CDiv _ _ from ⟨by decide, by decide⟩) ?_ | refine And.intro (show CPow _ _ from ⟨by decide, by decide, by decide⟩) ?_ | refine Or.inl (Exists.intro _ (And.intro rfl ?_)) | refine Or.inr (Exists.intro _ (And.intro rfl ?_)) | refine (fun (_ : V) => ?_) | refine (fun (_ : True) => ?_) | simp only [give_dat, give_cst, give_well, pys_nil, pys_consE, py_dat, py_lstE, py_tupE, pys_mapI, pys_mapD, dropsT_nil, dropsT_cons, startT, drop_bor, drop_lz, drop_dat, drop_cst, drop_well, drop_lst, drop_tup, drop_dic, drop_ins, opn_bor, opn_lz, opn_dat, opn_cst, opn_well, opn_lst, opn_tup, opn_dic, opn_ins, cls_bor, cls_lz, cls_dat, cls_cst, cls_well, cls_lst, cls_tup, cls_dic, cls_ins, clsAll_nil, clsAll_some, clsAll_none, Hz.putAt, putc_lst, putc_tup, putc_ins, child_lst, child_tup, child_ins, get_nil, get_cons, put_nil, put_cons, putFT, mask, List.getElem?_cons_zero, List.getElem?_cons_succ, List.set_cons_zero, List.set_cons_succ, Option.join_some, Option.map_some, Option.map_none, Option.bind_some, Option.bind_none, ite_true, ite_false, if_true, if_false, eq_self, Int.reduceToNat, Int.toNat_zero, Int.toNat_one, Int.reduceToNat, List.replicate_zero, List.replicate_succ, List.length_cons, List.length_nil, List.map_cons, List.map_nil, List.cons_append, List.nil_append, Nat.reduceSub, Nat.reduceAdd, Nat.zero_add, fp_Regions_0_n, fp_Regions_1_end, fp_Regions_2_ends, fp_Regions_3_n, fp_Regions_3_end, fp_Regions_3_ends, fp_Regions_3_UinitU, fp_Regions_3_take, fp_Regions_3_mark, fp_Regions_3_back, fp_Regions_3_top, fp_Regions_3_marks, fp_Regions_3_twin, fp_Regions_3_UeqU, fp_Regions_3_UneU] | exact rfl)
  refine ⟨by split <;> split <;> omega, by split <;> split <;> omega, fun _ ρ => AnyR ns ρ,
    ⟨_, _, _, _, _, _, _, _, _, _, _, rfl⟩, ?_, ?_⟩
  · rintro k ρ hk ⟨x1, x2, x3, x4, x5, x6, x7, x8, x9, x10, x11, rfl⟩
    repeat (first | refine And.intro rfl ?_ | apply Exists.intro | refine And.intro (Nat.le_of_ble_eq_true rfl) ?_ | refine And.intro (by decide) ?_ | refine And.intro ⟨_, _, rfl, rfl⟩ ?_ | refine And.intro ⟨_, _, rfl, rfl, rfl⟩ ?_ | refine And.intro (Hz.copy_map _ _) ?_ | refine And.intro (Hz.all_cut (Hz.copy_map _ _)) ?_ | refine And.intro (Hz.pys_map _ _) ?_ | refine And.intro (Hz.real_map _ _) ?_ | refine And.intro Hz.insNo ?_ | refine And.intro (Hz.insOnly tx.i_Regions) ?_ | refine And.intro (Hz.shaped_pl (by ((repeat' (first | exact Hz.pl_int | exact Hz.pl_bool | exact Hz.pl_none | refine Hz.pl_list ?_ | refine Hz.pl_tuple ?_ | exact Hz.plA_nil | refine Hz.plA_cons ?_ ?_ | refine Hz.plA_map (fun _ => ?_) _)); done))) ?_ | refine And.intro (.own _) ?_ | refine And.intro Hz.kit_self ?_ | refine And.intro Hz.notFirst_self ?_ | refine And.intro (show CMul _ _ from .inl ⟨by decide, by decide⟩) ?_ | refine And.intro (show CMul _ _ from .inr ⟨by decide, by decide⟩) ?_ | refine And.intro (show CMod _ _ from (by decide : (0 : Int) < _)) ?_ | refine And.intro (show CDiv _ _ from ⟨by decide, by decide⟩) ?_ | refine And.intro (show CPow _ _ from ⟨by decide, by decide, by decide⟩) ?_ | refine Or.inl (Exists.intro _ (And.intro rfl ?_)) | refine Or.inr (Exists.intro _ (And.intro rfl ?_)) | refine (fun (_ : V) => ?_) | refine (fun (_ : True) => ?_) | simp only [give_dat, give_cst, give_well, pys_nil, pys_consE, py_dat, py_lstE, py_tupE, pys_mapI, pys_mapD, dropsT_nil, dropsT_cons, startT, drop_bor, drop_lz, drop_dat, drop_cst, drop_well, drop_lst, drop_tup, drop_dic, drop_ins, opn_bor, opn_lz, opn_dat, opn_cst, opn_well, opn_lst, opn_tup, opn_dic, opn_ins, cls_bor, cls_lz, cls_dat, cls_cst, cls_well, cls_lst, cls_tup, cls_dic, cls_ins, clsAll_nil, clsAll_some, clsAll_none, Hz.putAt, putc_lst, putc_tup, putc_ins, child_lst, child_tup, child_ins, get_nil, get_cons, put_nil, put_cons, putFT, mask, List.getElem?_cons_zero, List.getElem?_cons_succ, List.set_cons_zero, List.set_cons_succ, Option.join_some, Option.map_some, Option.map_none, Option.bind_some, Option.bind_none, ite_true, ite_false, if_true, if_false, eq_self, Int.reduceToNat, Int.toNat_zero, Int.toNat_one, Int.reduceToNat, List.replicate_zero, List.replicate_succ, List.length_cons, List.length_nil, List.map_cons, List.map_nil, List.cons_append, List.nil_append, Nat.reduceSub, Nat.reduceAdd, Nat.zero_add, fp_Regions_0_n, fp_Regions_1_end, fp_Regions_2_ends, fp_Regions_3_n, fp_Regions_3_end, fp_Regions_3_ends, fp_Regions_3_UinitU, fp_Regions_3_take, fp_Regions_3_mark, fp_Regions_3_back, fp_Regions_3_top, fp_Regions_3_marks, fp_Regions_3_twin, fp_Regions_3_UeqU, fp_Regions_3_UneU] | exact rfl)
    refine ⟨by omega, h63, fun _ => ?_⟩
    repeat (first | refine And.intro rfl ?_ | apply Exists.intro | refine And.intro (Nat.le_of_ble_eq_true rfl) ?_ | refine And.intro (by decide) ?_ | refine And.intro ⟨_, _, rfl, rfl⟩ ?_ | refine And.intro ⟨_, _, rfl, rfl, rfl⟩ ?_ | refine And.intro (Hz.copy_map _ _) ?_ | refine And.intro (Hz.all_cut (Hz.copy_map _ _)) ?_ | refine And.intro (Hz.pys_map _ _) ?_ | refine And.intro (Hz.real_map _ _) ?_ | refine And.intro Hz.insNo ?_ | refine And.intro (Hz.insOnly tx.i_Regions) ?_ | refine And.intro (Hz.shaped_pl (by ((repeat' (first | exact Hz.pl_int | exact Hz.pl_bool | exact Hz.pl_none | refine Hz.pl_list ?_ | refine Hz.pl_tuple ?_ | exact Hz.plA_nil | refine Hz.plA_cons ?_ ?_ | refine Hz.plA_map (fun _ => ?_) _)); done))) ?_ | refine And.intro (.own _) ?_ | refine And.intro Hz.kit_self ?_ | refine And.intro Hz.notFirst_self ?_ | refine And.intro (show CMul _ _ from .inl ⟨by decide, by decide⟩) ?_ | refine And.intro (show CMul _ _ from .inr ⟨by decide, by decide⟩) ?_ | refine And.intro (show CMod _ _ from (by decide : (0 : Int) < _)) ?_ | refine And.intro (show CDiv _ _ from ⟨by decide, by decide⟩) ?_ | refine And.intro (show CPow _ _ from ⟨by decide, by decide, by decide⟩) ?_ | refine Or.inl (Exists.intro _ (And.intro rfl ?_)) | refine Or.inr (Exists.intro _ (And.intro rfl ?_)) | refine (fun (_ : V) => ?_) | refine (fun (_ : True) => ?_) | simp only [give_dat, give_cst, give_well, pys_nil, pys_consE, py_dat, py_lstE, py_tupE, pys_mapI, pys_mapD, dropsT_nil, dropsT_cons, startT, drop_bor, drop_lz, drop_dat, drop_cst, drop_well, drop_lst, drop_tup, drop_dic, drop_ins, opn_bor, opn_lz, opn_dat, opn_cst, opn_well, opn_lst, opn_tup, opn_dic, opn_ins, cls_bor, cls_lz, cls_dat, cls_cst, cls_well, cls_lst, cls_tup, cls_dic, cls_ins, clsAll_nil, clsAll_some, clsAll_none, Hz.putAt, putc_lst, putc_tup, putc_ins, child_lst, child_tup, child_ins, get_nil, get_cons, put_nil, put_cons, putFT, mask, List.getElem?_cons_zero, List.getElem?_cons_succ, List.set_cons_zero, List.set_cons_succ, Option.join_some, Option.map_some, Option.map_none, Option.bind_some, Option.bind_none, ite_true, ite_false, if_true, if_false, eq_self, Int.reduceToNat, Int.toNat_zero, Int.toNat_one, Int.reduceToNat, List.replicate_zero, List.replicate_succ, List.length_cons, List.length_nil, List.map_cons, List.map_nil, List.cons_append, List.nil_append, Nat.reduceSub, Nat.reduceAdd, Nat.zero_add, fp_Regions_0_n, fp_Regions_1_end, fp_Regions_2_ends, fp_Regions_3_n, fp_Regions_3_end, fp_Regions_3_ends, fp_Regions_3_UinitU, fp_Regions_3_take, fp_Regions_3_mark, fp_Regions_3_back, fp_Regions_3_top, fp_Regions_3_marks, fp_Regions_3_twin, fp_Regions_3_UeqU, fp_Regions_3_UneU] | exact rfl)
    refine fun j j0 j1 _ => ?_
    obtain ⟨l, hl, l0, l1⟩ : ∃ l : Int, [tI 9, tI 60, tI 400][j.toNat]? = some (tI l) ∧ 0 < l ∧ l ≤ 400 := by
      have : j = 0 ∨ j = 1 ∨ j = 2 := by omega
      rcases this with rfl | rfl | rfl
      · exact ⟨9, rfl, by decide, by decide⟩
      · exact ⟨60, rfl, by decide, by decide⟩
      · exact ⟨400, rfl, by decide, by decide⟩
    repeat (first | refine And.intro rfl ?_ | apply Exists.intro | refine And.intro (Nat.le_of_ble_eq_true rfl) ?_ | refine And.intro (by decide) ?_ | refine And.intro ⟨_, _, rfl, rfl⟩ ?_ | refine And.intro ⟨_, _, rfl, rfl, rfl⟩ ?_ | refine And.intro (Hz.copy_map _ _) ?_ | refine And.intro (Hz.all_cut (Hz.copy_map _ _)) ?_ | refine And.intro (Hz.pys_map _ _) ?_ | refine And.intro (Hz.real_map _ _) ?_ | refine And.intro Hz.insNo ?_ | refine And.intro (Hz.insOnly tx.i_Regions) ?_ | refine And.intro (Hz.shaped_pl (by ((repeat' (first | exact Hz.pl_int | exact Hz.pl_bool | exact Hz.pl_none | refine Hz.pl_list ?_ | refine Hz.pl_tuple ?_ | exact Hz.plA_nil | refine Hz.plA_cons ?_ ?_ | refine Hz.plA_map (fun _ => ?_) _)); done))) ?_ | refine And.intro (.own _) ?_ | refine And.intro Hz.kit_self ?_ | refine And.intro Hz.notFirst_self ?_ | refine And.intro (show CMul _ _ from .inl ⟨by decide, by decide⟩) ?_ | refine And.intro (show CMul _ _ from .inr ⟨by decide, by decide⟩) ?_ | refine And.intro (show CMod _ _ from (by decide : (0 : Int) < _)) ?_ | refine And.intro (show CDiv _ _ from ⟨by decide, by decide⟩) ?_ | refine And.intro (show CPow _ _ from ⟨by decide, by decide, by decide⟩) ?_ | refine Or.inl (Exists.intro _ (And.intro rfl ?_)) | refine Or.inr (Exists.intro _ (And.intro rfl ?_)) | refine (fun (_ : V) => ?_) | refine (fun (_ : True) => ?_) | simp only [give_dat, give_cst, give_well, pys_nil, pys_consE, py_dat, py_lstE, py_tupE, pys_mapI, pys_mapD, dropsT_nil, dropsT_cons, startT, drop_bor, drop_lz, drop_dat, drop_cst, drop_well, drop_lst, drop_tup, drop_dic, drop_ins, opn_bor, opn_lz, opn_dat, opn_cst, opn_well, opn_lst, opn_tup, opn_dic, opn_ins, cls_bor, cls_lz, cls_dat, cls_cst, cls_well, cls_lst, cls_tup, cls_dic, cls_ins, clsAll_nil, clsAll_some, clsAll_none, Hz.putAt, putc_lst, putc_tup, putc_ins, child_lst, child_tup, child_ins, get_nil, get_cons, put_nil, put_cons, putFT, mask, List.getElem?_cons_zero, List.getElem?_cons_succ, List.set_cons_zero, List.set_cons_succ, Option.join_some, Option.map_some, Option.map_none, Option.bind_some, Option.bind_none, ite_true, ite_false, if_true, if_false, eq_self, Int.reduceToNat, Int.toNat_zero, Int.toNat_one, Int.reduceToNat, List.replicate_zero, List.replicate_succ, List.length_cons, List.length_nil, List.map_cons, List.map_nil, List.cons_append, List.nil_append, Nat.reduceSub, Nat.reduceAdd, Nat.zero_add, fp_Regions_0_n, fp_Regions_1_end, fp_Regions_2_ends, fp_Regions_3_n, fp_Regions_3_end, fp_Regions_3_ends, fp_Regions_3_UinitU, fp_Regions_3_take, fp_Regions_3_mark, fp_Regions_3_back, fp_Regions_3_top, fp_Regions_3_marks, fp_Regions_3_twin, fp_Regions_3_UeqU, fp_Regions_3_UneU] | exact rfl)
    refine ⟨ixN_of j0 j1, ?_⟩
    refine ⟨hl, ?_⟩
    repeat (first | refine And.intro rfl ?_ | apply Exists.intro | refine And.intro (Nat.le_of_ble_eq_true rfl) ?_ | refine And.intro (by decide) ?_ | refine And.intro ⟨_, _, rfl, rfl⟩ ?_ | refine And.intro ⟨_, _, rfl, rfl, rfl⟩ ?_ | refine And.intro (Hz.copy_map _ _) ?_ | refine And.intro (Hz.all_cut (Hz.copy_map _ _)) ?_ | refine And.intro (Hz.pys_map _ _) ?_ | refine And.intro (Hz.real_map _ _) ?_ | refine And.intro Hz.insNo ?_ | refine And.intro (Hz.insOnly tx.i_Regions) ?_ | refine And.intro (Hz.shaped_pl (by ((repeat' (first | exact Hz.pl_int | exact Hz.pl_bool | exact Hz.pl_none | refine Hz.pl_list ?_ | refine Hz.pl_tuple ?_ | exact Hz.plA_nil | refine Hz.plA_cons ?_ ?_ | refine Hz.plA_map (fun _ => ?_) _)); done))) ?_ | refine And.intro (.own _) ?_ | refine And.intro Hz.kit_self ?_ | refine And.intro Hz.notFirst_self ?_ | refine And.intro (show CMul _ _ from .inl ⟨by decide, by decide⟩) ?_ | refine And.intro (show CMul _ _ from .inr ⟨by decide, by decide⟩) ?_ | refine And.intro (show CMod _ _ from (by decide : (0 : Int) < _)) ?_ | refine And.intro (show CDiv _ _ from ⟨by decide, by decide⟩) ?_ | refine And.intro (show CPow _ _ from ⟨by decide, by decide, by decide⟩) ?_ | refine Or.inl (Exists.intro _ (And.intro rfl ?_)) | refine Or.inr (Exists.intro _ (And.intro rfl ?_)) | refine (fun (_ : V) => ?_) | refine (fun (_ : True) => ?_) | simp only [give_dat, give_cst, give_well, pys_nil, pys_consE, py_dat, py_lstE, py_tupE, pys_mapI, pys_mapD, dropsT_nil, dropsT_cons, startT, drop_bor, drop_lz, drop_dat, drop_cst, drop_well, drop_lst, drop_tup, drop_dic, drop_ins, opn_bor, opn_lz, opn_dat, opn_cst, opn_well, opn_lst, opn_tup, opn_dic, opn_ins, cls_bor, cls_lz, cls_dat, cls_cst, cls_well, cls_lst, cls_tup, cls_dic, cls_ins, clsAll_nil, clsAll_some, clsAll_none, Hz.putAt, putc_lst, putc_tup, putc_ins, child_lst, child_tup, child_ins, get_nil, get_cons, put_nil, put_cons, putFT, mask, List.getElem?_cons_zero, List.getElem?_cons_succ, List.set_cons_zero, List.set_cons_succ, Option.join_some, Option.map_some, Option.map_none, Option.bind_some, Option.bind_none, ite_true, ite_false, if_true, if_false, eq_self, Int.reduceToNat, Int.toNat_zero, Int.toNat_one, Int.reduceToNat, List.replicate_zero, List.replicate_succ, List.length_cons, List.length_nil, List.map_cons, List.map_nil, List.cons_append, List.nil_append, Nat.reduceSub, Nat.reduceAdd, Nat.zero_add, fp_Regions_0_n, fp_Regions_1_end, fp_Regions_2_ends, fp_Regions_3_n, fp_Regions_3_end, fp_Regions_3_ends, fp_Regions_3_UinitU, fp_Regions_3_take, fp_Regions_3_mark, fp_Regions_3_back, fp_Regions_3_top, fp_Regions_3_marks, fp_Regions_3_twin, fp_Regions_3_UeqU, fp_Regions_3_UneU] | exact rfl)
    refine ⟨l0, fun n' n0 n1 _ => ?_⟩
    have ok1 : Ok 0 (1 + n') 0 [] := ⟨by omega, by omega, by omega, by omega, fun _ z => (nomatch z), Nat.le_refl _⟩
    have rest : ∀ other : Int, Ok 0 other 0 [] → t_law_91 K a (⟨AnyR ns, fun t ρ4 => (outO [] 1 post).rt t ρ4, fun ρ4 => t_law_103 K a (outO [] 1 post) (outX [] 1 ep) ρ4, AnyR ns⟩ : WO) (outX [] 1 ep)
          [some (.dat (.list (ns.map .int))), some (tI (0 + k)), some .well, some (tI (1 + n')), some (tI other), x5, x6, x7, x8, x9, x10, x11] := fun other ok2 => by
      repeat (first | refine And.intro rfl ?_ | apply Exists.intro | refine And.intro (Nat.le_of_ble_eq_true rfl) ?_ | refine And.intro (by decide) ?_ | refine And.intro ⟨_, _, rfl, rfl⟩ ?_ | refine And.intro ⟨_, _, rfl, rfl, rfl⟩ ?_ | refine And.intro (Hz.copy_map _ _) ?_ | refine And.intro (Hz.all_cut (Hz.copy_map _ _)) ?_ | refine And.intro (Hz.pys_map _ _) ?_ | refine And.intro (Hz.real_map _ _) ?_ | refine And.intro Hz.insNo ?_ | refine And.intro (Hz.insOnly tx.i_Regions) ?_ | refine And.intro (Hz.shaped_pl (by ((repeat' (first | exact Hz.pl_int | exact Hz.pl_bool | exact Hz.pl_none | refine Hz.pl_list ?_ | refine Hz.pl_tuple ?_ | exact Hz.plA_nil | refine Hz.plA_cons ?_ ?_ | refine Hz.plA_map (fun _ => ?_) _)); done))) ?_ | refine And.intro (.own _) ?_ | refine And.intro Hz.kit_self ?_ | refine And.intro Hz.notFirst_self ?_ | refine And.intro (show CMul _ _ from .inl ⟨by decide, by decide⟩) ?_ | refine And.intro (show CMul _ _ from .inr ⟨by decide, by decide⟩) ?_ | refine And.intro (show CMod _ _ from (by decide : (0 : Int) < _)) ?_ | refine And.intro (show CDiv _ _ from ⟨by decide, by decide⟩) ?_ | refine And.intro (show CPow _ _ from ⟨by decide, by decide, by decide⟩) ?_ | refine Or.inl (Exists.intro _ (And.intro rfl ?_)) | refine Or.inr (Exists.intro _ (And.intro rfl ?_)) | refine (fun (_ : V) => ?_) | refine (fun (_ : True) => ?_) | simp only [give_dat, give_cst, give_well, pys_nil, pys_consE, py_dat, py_lstE, py_tupE, pys_mapI, pys_mapD, dropsT_nil, dropsT_cons, startT, drop_bor, drop_lz, drop_dat, drop_cst, drop_well, drop_lst, drop_tup, drop_dic, drop_ins, opn_bor, opn_lz, opn_dat, opn_cst, opn_well, opn_lst, opn_tup, opn_dic, opn_ins, cls_bor, cls_lz, cls_dat, cls_cst, cls_well, cls_lst, cls_tup, cls_dic, cls_ins, clsAll_nil, clsAll_some, clsAll_none, Hz.putAt, putc_lst, putc_tup, putc_ins, child_lst, child_tup, child_ins, get_nil, get_cons, put_nil, put_cons, putFT, mask, List.getElem?_cons_zero, List.getElem?_cons_succ, List.set_cons_zero, List.set_cons_succ, Option.join_some, Option.map_some, Option.map_none, Option.bind_some, Option.bind_none, ite_true, ite_false, if_true, if_false, eq_self, Int.reduceToNat, Int.toNat_zero, Int.toNat_one, Int.reduceToNat, List.replicate_zero, List.replicate_succ, List.length_cons, List.length_nil, List.map_cons, List.map_nil, List.cons_append, List.nil_append, Nat.reduceSub, Nat.reduceAdd, Nat.zero_add, fp_Regions_0_n, fp_Regions_1_end, fp_Regions_2_ends, fp_Regions_3_n, fp_Regions_3_end, fp_Regions_3_ends, fp_Regions_3_UinitU, fp_Regions_3_take, fp_Regions_3_mark, fp_Regions_3_back, fp_Regions_3_top, fp_Regions_3_marks, fp_Regions_3_twin, fp_Regions_3_UeqU, fp_Regions_3_UneU] | exact rfl)
      refine ⟨ok1.n1, ok1.n2, fun _ => ?_⟩
      repeat (first | refine And.intro rfl ?_ | apply Exists.intro | refine And.intro (Nat.le_of_ble_eq_true rfl) ?_ | refine And.intro (by decide) ?_ | refine And.intro ⟨_, _, rfl, rfl⟩ ?_ | refine And.intro ⟨_, _, rfl, rfl, rfl⟩ ?_ | refine And.intro (Hz.copy_map _ _) ?_ | refine And.intro (Hz.all_cut (Hz.copy_map _ _)) ?_ | refine And.intro (Hz.pys_map _ _) ?_ | refine And.intro (Hz.real_map _ _) ?_ | refine And.intro Hz.insNo ?_ | refine And.intro (Hz.insOnly tx.i_Regions) ?_ | refine And.intro (Hz.shaped_pl (by ((repeat' (first | exact Hz.pl_int | exact Hz.pl_bool | exact Hz.pl_none | refine Hz.pl_list ?_ | refine Hz.pl_tuple ?_ | exact Hz.plA_nil | refine Hz.plA_cons ?_ ?_ | refine Hz.plA_map (fun _ => ?_) _)); done))) ?_ | refine And.intro (.own _) ?_ | refine And.intro Hz.kit_self ?_ | refine And.intro Hz.notFirst_self ?_ | refine And.intro (show CMul _ _ from .inl ⟨by decide, by decide⟩) ?_ | refine And.intro (show CMul _ _ from .inr ⟨by decide, by decide⟩) ?_ | refine And.intro (show CMod _ _ from (by decide : (0 : Int) < _)) ?_ | refine And.intro (show CDiv _ _ from ⟨by decide, by decide⟩) ?_ | refine And.intro (show CPow _ _ from ⟨by decide, by decide, by decide⟩) ?_ | refine Or.inl (Exists.intro _ (And.intro rfl ?_)) | refine Or.inr (Exists.intro _ (And.intro rfl ?_)) | refine (fun (_ : V) => ?_) | refine (fun (_ : True) => ?_) | simp only [give_dat, give_cst, give_well, pys_nil, pys_consE, py_dat, py_lstE, py_tupE, pys_mapI, pys_mapD, dropsT_nil, dropsT_cons, startT, drop_bor, drop_lz, drop_dat, drop_cst, drop_well, drop_lst, drop_tup, drop_dic, drop_ins, opn_bor, opn_lz, opn_dat, opn_cst, opn_well, opn_lst, opn_tup, opn_dic, opn_ins, cls_bor, cls_lz, cls_dat, cls_cst, cls_well, cls_lst, cls_tup, cls_dic, cls_ins, clsAll_nil, clsAll_some, clsAll_none, Hz.putAt, putc_lst, putc_tup, putc_ins, child_lst, child_tup, child_ins, get_nil, get_cons, put_nil, put_cons, putFT, mask, List.getElem?_cons_zero, List.getElem?_cons_succ, List.set_cons_zero, List.set_cons_succ, Option.join_some, Option.map_some, Option.map_none, Option.bind_some, Option.bind_none, ite_true, ite_false, if_true, if_false, eq_self, Int.reduceToNat, Int.toNat_zero, Int.toNat_one, Int.reduceToNat, List.replicate_zero, List.replicate_succ, List.length_cons, List.length_nil, List.map_cons, List.map_nil, List.cons_append, List.nil_append, Nat.reduceSub, Nat.reduceAdd, Nat.zero_add, fp_Regions_0_n, fp_Regions_1_end, fp_Regions_2_ends, fp_Regions_3_n, fp_Regions_3_end, fp_Regions_3_ends, fp_Regions_3_UinitU, fp_Regions_3_take, fp_Regions_3_mark, fp_Regions_3_back, fp_Regions_3_top, fp_Regions_3_marks, fp_Regions_3_twin, fp_Regions_3_UeqU, fp_Regions_3_UneU] | exact rfl)
      refine ⟨ok2.n1, ok2.n2, fun _ => ?_⟩
      repeat (first | refine And.intro rfl ?_ | apply Exists.intro | refine And.intro (Nat.le_of_ble_eq_true rfl) ?_ | refine And.intro (by decide) ?_ | refine And.intro ⟨_, _, rfl, rfl⟩ ?_ | refine And.intro ⟨_, _, rfl, rfl, rfl⟩ ?_ | refine And.intro (Hz.copy_map _ _) ?_ | refine And.intro (Hz.all_cut (Hz.copy_map _ _)) ?_ | refine And.intro (Hz.pys_map _ _) ?_ | refine And.intro (Hz.real_map _ _) ?_ | refine And.intro Hz.insNo ?_ | refine And.intro (Hz.insOnly tx.i_Regions) ?_ | refine And.intro (Hz.shaped_pl (by ((repeat' (first | exact Hz.pl_int | exact Hz.pl_bool | exact Hz.pl_none | refine Hz.pl_list ?_ | refine Hz.pl_tuple ?_ | exact Hz.plA_nil | refine Hz.plA_cons ?_ ?_ | refine Hz.plA_map (fun _ => ?_) _)); done))) ?_ | refine And.intro (.own _) ?_ | refine And.intro Hz.kit_self ?_ | refine And.intro Hz.notFirst_self ?_ | refine And.intro (show CMul _ _ from .inl ⟨by decide, by decide⟩) ?_ | refine And.intro (show CMul _ _ from .inr ⟨by decide, by decide⟩) ?_ | refine And.intro (show CMod _ _ from (by decide : (0 : Int) < _)) ?_ | refine And.intro (show CDiv _ _ from ⟨by decide, by decide⟩) ?_ | refine And.intro (show CPow _ _ from ⟨by decide, by decide, by decide⟩) ?_ | refine Or.inl (Exists.intro _ (And.intro rfl ?_)) | refine Or.inr (Exists.intro _ (And.intro rfl ?_)) | refine (fun (_ : V) => ?_) | refine (fun (_ : True) => ?_) | simp only [give_dat, give_cst, give_well, pys_nil, pys_consE, py_dat, py_lstE, py_tupE, pys_mapI, pys_mapD, dropsT_nil, dropsT_cons, startT, drop_bor, drop_lz, drop_dat, drop_cst, drop_well, drop_lst, drop_tup, drop_dic, drop_ins, opn_bor, opn_lz, opn_dat, opn_cst, opn_well, opn_lst, opn_tup, opn_dic, opn_ins, cls_bor, cls_lz, cls_dat, cls_cst, cls_well, cls_lst, cls_tup, cls_dic, cls_ins, clsAll_nil, clsAll_some, clsAll_none, Hz.putAt, putc_lst, putc_tup, putc_ins, child_lst, child_tup, child_ins, get_nil, get_cons, put_nil, put_cons, putFT, mask, List.getElem?_cons_zero, List.getElem?_cons_succ, List.set_cons_zero, List.set_cons_succ, Option.join_some, Option.map_some, Option.map_none, Option.bind_some, Option.bind_none, ite_true, ite_false, if_true, if_false, eq_self, Int.reduceToNat, Int.toNat_zero, Int.toNat_one, Int.reduceToNat, List.replicate_zero, List.replicate_succ, List.length_cons, List.length_nil, List.map_cons, List.map_nil, List.cons_append, List.nil_append, Nat.reduceSub, Nat.reduceAdd, Nat.zero_add, fp_Regions_0_n, fp_Regions_1_end, fp_Regions_2_ends, fp_Regions_3_n, fp_Regions_3_end, fp_Regions_3_ends, fp_Regions_3_UinitU, fp_Regions_3_take, fp_Regions_3_mark, fp_Regions_3_back, fp_Regions_3_top, fp_Regions_3_marks, fp_Regions_3_twin, fp_Regions_3_UeqU, fp_Regions_3_UneU] | exact rfl)
      refine fun m m0 m1 _ => ?_
      repeat (first | refine And.intro rfl ?_ | apply Exists.intro | refine And.intro (Nat.le_of_ble_eq_true rfl) ?_ | refine And.intro (by decide) ?_ | refine And.intro ⟨_, _, rfl, rfl⟩ ?_ | refine And.intro ⟨_, _, rfl, rfl, rfl⟩ ?_ | refine And.intro (Hz.copy_map _ _) ?_ | refine And.intro (Hz.all_cut (Hz.copy_map _ _)) ?_ | refine And.intro (Hz.pys_map _ _) ?_ | refine And.intro (Hz.real_map _ _) ?_ | refine And.intro Hz.insNo ?_ | refine And.intro (Hz.insOnly tx.i_Regions) ?_ | refine And.intro (Hz.shaped_pl (by ((repeat' (first | exact Hz.pl_int | exact Hz.pl_bool | exact Hz.pl_none | refine Hz.pl_list ?_ | refine Hz.pl_tuple ?_ | exact Hz.plA_nil | refine Hz.plA_cons ?_ ?_ | refine Hz.plA_map (fun _ => ?_) _)); done))) ?_ | refine And.intro (.own _) ?_ | refine And.intro Hz.kit_self ?_ | refine And.intro Hz.notFirst_self ?_ | refine And.intro (show CMul _ _ from .inl ⟨by decide, by decide⟩) ?_ | refine And.intro (show CMul _ _ from .inr ⟨by decide, by decide⟩) ?_ | refine And.intro (show CMod _ _ from (by decide : (0 : Int) < _)) ?_ | refine And.intro (show CDiv _ _ from ⟨by decide, by decide⟩) ?_ | refine And.intro (show CPow _ _ from ⟨by decide, by decide, by decide⟩) ?_ | refine Or.inl (Exists.intro _ (And.intro rfl ?_)) | refine Or.inr (Exists.intro _ (And.intro rfl ?_)) | refine (fun (_ : V) => ?_) | refine (fun (_ : True) => ?_) | simp only [give_dat, give_cst, give_well, pys_nil, pys_consE, py_dat, py_lstE, py_tupE, pys_mapI, pys_mapD, dropsT_nil, dropsT_cons, startT, drop_bor, drop_lz, drop_dat, drop_cst, drop_well, drop_lst, drop_tup, drop_dic, drop_ins, opn_bor, opn_lz, opn_dat, opn_cst, opn_well, opn_lst, opn_tup, opn_dic, opn_ins, cls_bor, cls_lz, cls_dat, cls_cst, cls_well, cls_lst, cls_tup, cls_dic, cls_ins, clsAll_nil, clsAll_some, clsAll_none, Hz.putAt, putc_lst, putc_tup, putc_ins, child_lst, child_tup, child_ins, get_nil, get_cons, put_nil, put_cons, putFT, mask, List.getElem?_cons_zero, List.getElem?_cons_succ, List.set_cons_zero, List.set_cons_succ, Option.join_some, Option.map_some, Option.map_none, Option.bind_some, Option.bind_none, ite_true, ite_false, if_true, if_false, eq_self, Int.reduceToNat, Int.toNat_zero, Int.toNat_one, Int.reduceToNat, List.replicate_zero, List.replicate_succ, List.length_cons, List.length_nil, List.map_cons, List.map_nil, List.cons_append, List.nil_append, Nat.reduceSub, Nat.reduceAdd, Nat.zero_add, fp_Regions_0_n, fp_Regions_1_end, fp_Regions_2_ends, fp_Regions_3_n, fp_Regions_3_end, fp_Regions_3_ends, fp_Regions_3_UinitU, fp_Regions_3_take, fp_Regions_3_mark, fp_Regions_3_back, fp_Regions_3_top, fp_Regions_3_marks, fp_Regions_3_twin, fp_Regions_3_UeqU, fp_Regions_3_UneU] | exact rfl)
      refine ⟨by omega, by omega, Iv2 a.C_Regions ns (0 + k) (1 + n') other, ⟨_, _, _, _, [], [], _, _, _, _, _, rfl, ok1, ok2⟩, ?_, ?_⟩
      · rintro b ρ hb ⟨p, e, q, f, es, fs, x7, x8, x9, x10, x11, rfl, o1, o2⟩
        have hb' : b < 60 := by omega
        have rest : ∀ (w : Int) (p e q f : Int) (es fs : List Int), Ok (b + 1) p e es → Ok (b + 1) q f fs → t_law_96 K a (⟨Iv2 a.C_Regions ns (0 + k) (1 + n') other (b + 1), fun t ρ4 => (outO [] 1 post).rt t ρ4, fun ρ4 => AnyR ns ρ4, Iv2 a.C_Regions ns (0 + k) (1 + n') other (b + 1)⟩ : WO) (outX [] 1 ep)
            [some (.dat (.list (ns.map .int))), some (tI (0 + k)), some .well, some (tI (1 + n')), some (tI other), some (.lst [RgT a.C_Regions p e es, RgT a.C_Regions q f fs]), some (.lst [StT p e es, StT q f fs]), some (tI (0 + b)), some (tI w), x9, x10, x11] := fun w p e q f es fs o1 o2 => by
          repeat (first | refine And.intro rfl ?_ | apply Exists.intro | refine And.intro (Nat.le_of_ble_eq_true rfl) ?_ | refine And.intro (by decide) ?_ | refine And.intro ⟨_, _, rfl, rfl⟩ ?_ | refine And.intro ⟨_, _, rfl, rfl, rfl⟩ ?_ | refine And.intro (Hz.copy_map _ _) ?_ | refine And.intro (Hz.all_cut (Hz.copy_map _ _)) ?_ | refine And.intro (Hz.pys_map _ _) ?_ | refine And.intro (Hz.real_map _ _) ?_ | refine And.intro Hz.insNo ?_ | refine And.intro (Hz.insOnly tx.i_Regions) ?_ | refine And.intro (Hz.shaped_pl (by ((repeat' (first | exact Hz.pl_int | exact Hz.pl_bool | exact Hz.pl_none | refine Hz.pl_list ?_ | refine Hz.pl_tuple ?_ | exact Hz.plA_nil | refine Hz.plA_cons ?_ ?_ | refine Hz.plA_map (fun _ => ?_) _)); done))) ?_ | refine And.intro (.own _) ?_ | refine And.intro Hz.kit_self ?_ | refine And.intro Hz.notFirst_self ?_ | refine And.intro (show CMul _ _ from .inl ⟨by decide, by decide⟩) ?_ | refine And.intro (show CMul _ _ from .inr ⟨by decide, by decide⟩) ?_ | refine And.intro (show CMod _ _ from (by decide : (0 : Int) < _)) ?_ | refine And.intro (show CDiv _ _ from ⟨by decide, by decide⟩) ?_ | refine And.intro (show CPow _ _ from ⟨by decide, by decide, by decide⟩) ?_ | refine Or.inl (Exists.intro _ (And.intro rfl ?_)) | refine Or.inr (Exists.intro _ (And.intro rfl ?_)) | refine (fun (_ : V) => ?_) | refine (fun (_ : True) => ?_) | simp only [give_dat, give_cst, give_well, pys_nil, pys_consE, py_dat, py_lstE, py_tupE, pys_mapI, pys_mapD, dropsT_nil, dropsT_cons, startT, drop_bor, drop_lz, drop_dat, drop_cst, drop_well, drop_lst, drop_tup, drop_dic, drop_ins, opn_bor, opn_lz, opn_dat, opn_cst, opn_well, opn_lst, opn_tup, opn_dic, opn_ins, cls_bor, cls_lz, cls_dat, cls_cst, cls_well, cls_lst, cls_tup, cls_dic, cls_ins, clsAll_nil, clsAll_some, clsAll_none, Hz.putAt, putc_lst, putc_tup, putc_ins, child_lst, child_tup, child_ins, get_nil, get_cons, put_nil, put_cons, putFT, mask, List.getElem?_cons_zero, List.getElem?_cons_succ, List.set_cons_zero, List.set_cons_succ, Option.join_some, Option.map_some, Option.map_none, Option.bind_some, Option.bind_none, ite_true, ite_false, if_true, if_false, eq_self, Int.reduceToNat, Int.toNat_zero, Int.toNat_one, Int.reduceToNat, List.replicate_zero, List.replicate_succ, List.length_cons, List.length_nil, List.map_cons, List.map_nil, List.cons_append, List.nil_append, Nat.reduceSub, Nat.reduceAdd, Nat.zero_add, fp_Regions_0_n, fp_Regions_1_end, fp_Regions_2_ends, fp_Regions_3_n, fp_Regions_3_end, fp_Regions_3_ends, fp_Regions_3_UinitU, fp_Regions_3_take, fp_Regions_3_mark, fp_Regions_3_back, fp_Regions_3_top, fp_Regions_3_marks, fp_Regions_3_twin, fp_Regions_3_UeqU, fp_Regions_3_UneU] | exact rfl)
          rename_i v1 v2
          refine ⟨fun i acc ρ => acc = [] ∧ ρ = [some (.dat (.list (ns.map .int))), some (tI (0 + k)), some .well, some (tI (1 + n')), some (tI other), some (.cst v2), some (.cst v1), some (tI (0 + b)), some (tI w), none, none, x11], ⟨rfl, rfl⟩, ?_, ?_⟩
          · rintro i acc ρ5 c1 c2 hc1 hc2 ⟨rfl, rfl⟩
            match i with
            | 0 =>
              cases hc1
              cases hc2
              repeat (first | refine And.intro rfl ?_ | apply Exists.intro | refine And.intro (Nat.le_of_ble_eq_true rfl) ?_ | refine And.intro (by decide) ?_ | refine And.intro ⟨_, _, rfl, rfl⟩ ?_ | refine And.intro ⟨_, _, rfl, rfl, rfl⟩ ?_ | refine And.intro (Hz.copy_map _ _) ?_ | refine And.intro (Hz.all_cut (Hz.copy_map _ _)) ?_ | refine And.intro (Hz.pys_map _ _) ?_ | refine And.intro (Hz.real_map _ _) ?_ | refine And.intro Hz.insNo ?_ | refine And.intro (Hz.insOnly tx.i_Regions) ?_ | refine And.intro (Hz.shaped_pl (by ((repeat' (first | exact Hz.pl_int | exact Hz.pl_bool | exact Hz.pl_none | refine Hz.pl_list ?_ | refine Hz.pl_tuple ?_ | exact Hz.plA_nil | refine Hz.plA_cons ?_ ?_ | refine Hz.plA_map (fun _ => ?_) _)); done))) ?_ | refine And.intro (.own _) ?_ | refine And.intro Hz.kit_self ?_ | refine And.intro Hz.notFirst_self ?_ | refine And.intro (show CMul _ _ from .inl ⟨by decide, by decide⟩) ?_ | refine And.intro (show CMul _ _ from .inr ⟨by decide, by decide⟩) ?_ | refine And.intro (show CMod _ _ from (by decide : (0 : Int) < _)) ?_ | refine And.intro (show CDiv _ _ from ⟨by decide, by decide⟩) ?_ | refine And.intro (show CPow _ _ from ⟨by decide, by decide, by decide⟩) ?_ | refine Or.inl (Exists.intro _ (And.intro rfl ?_)) | refine Or.inr (Exists.intro _ (And.intro rfl ?_)) | refine (fun (_ : V) => ?_) | refine (fun (_ : True) => ?_) | simp only [give_dat, give_cst, give_well, pys_nil, pys_consE, py_dat, py_lstE, py_tupE, pys_mapI, pys_mapD, dropsT_nil, dropsT_cons, startT, drop_bor, drop_lz, drop_dat, drop_cst, drop_well, drop_lst, drop_tup, drop_dic, drop_ins, opn_bor, opn_lz, opn_dat, opn_cst, opn_well, opn_lst, opn_tup, opn_dic, opn_ins, cls_bor, cls_lz, cls_dat, cls_cst, cls_well, cls_lst, cls_tup, cls_dic, cls_ins, clsAll_nil, clsAll_some, clsAll_none, Hz.putAt, putc_lst, putc_tup, putc_ins, child_lst, child_tup, child_ins, get_nil, get_cons, put_nil, put_cons, putFT, mask, List.getElem?_cons_zero, List.getElem?_cons_succ, List.set_cons_zero, List.set_cons_succ, Option.join_some, Option.map_some, Option.map_none, Option.bind_some, Option.bind_none, ite_true, ite_false, if_true, if_false, eq_self, Int.reduceToNat, Int.toNat_zero, Int.toNat_one, Int.reduceToNat, List.replicate_zero, List.replicate_succ, List.length_cons, List.length_nil, List.map_cons, List.map_nil, List.cons_append, List.nil_append, Nat.reduceSub, Nat.reduceAdd, Nat.zero_add, fp_Regions_0_n, fp_Regions_1_end, fp_Regions_2_ends, fp_Regions_3_n, fp_Regions_3_end, fp_Regions_3_ends, fp_Regions_3_UinitU, fp_Regions_3_take, fp_Regions_3_mark, fp_Regions_3_back, fp_Regions_3_top, fp_Regions_3_marks, fp_Regions_3_twin, fp_Regions_3_UeqU, fp_Regions_3_UneU] | exact rfl)
              refine ⟨b + 1, by omega, o1, fun _ => ?_⟩
              repeat (first | refine And.intro rfl ?_ | apply Exists.intro | refine And.intro (Nat.le_of_ble_eq_true rfl) ?_ | refine And.intro (by decide) ?_ | refine And.intro ⟨_, _, rfl, rfl⟩ ?_ | refine And.intro ⟨_, _, rfl, rfl, rfl⟩ ?_ | refine And.intro (Hz.copy_map _ _) ?_ | refine And.intro (Hz.all_cut (Hz.copy_map _ _)) ?_ | refine And.intro (Hz.pys_map _ _) ?_ | refine And.intro (Hz.real_map _ _) ?_ | refine And.intro Hz.insNo ?_ | refine And.intro (Hz.insOnly tx.i_Regions) ?_ | refine And.intro (Hz.shaped_pl (by ((repeat' (first | exact Hz.pl_int | exact Hz.pl_bool | exact Hz.pl_none | refine Hz.pl_list ?_ | refine Hz.pl_tuple ?_ | exact Hz.plA_nil | refine Hz.plA_cons ?_ ?_ | refine Hz.plA_map (fun _ => ?_) _)); done))) ?_ | refine And.intro (.own _) ?_ | refine And.intro Hz.kit_self ?_ | refine And.intro Hz.notFirst_self ?_ | refine And.intro (show CMul _ _ from .inl ⟨by decide, by decide⟩) ?_ | refine And.intro (show CMul _ _ from .inr ⟨by decide, by decide⟩) ?_ | refine And.intro (show CMod _ _ from (by decide : (0 : Int) < _)) ?_ | refine And.intro (show CDiv _ _ from ⟨by decide, by decide⟩) ?_ | refine And.intro (show CPow _ _ from ⟨by decide, by decide, by decide⟩) ?_ | refine Or.inl (Exists.intro _ (And.intro rfl ?_)) | refine Or.inr (Exists.intro _ (And.intro rfl ?_)) | refine (fun (_ : V) => ?_) | refine (fun (_ : True) => ?_) | simp only [give_dat, give_cst, give_well, pys_nil, pys_consE, py_dat, py_lstE, py_tupE, pys_mapI, pys_mapD, dropsT_nil, dropsT_cons, startT, drop_bor, drop_lz, drop_dat, drop_cst, drop_well, drop_lst, drop_tup, drop_dic, drop_ins, opn_bor, opn_lz, opn_dat, opn_cst, opn_well, opn_lst, opn_tup, opn_dic, opn_ins, cls_bor, cls_lz, cls_dat, cls_cst, cls_well, cls_lst, cls_tup, cls_dic, cls_ins, clsAll_nil, clsAll_some, clsAll_none, Hz.putAt, putc_lst, putc_tup, putc_ins, child_lst, child_tup, child_ins, get_nil, get_cons, put_nil, put_cons, putFT, mask, List.getElem?_cons_zero, List.getElem?_cons_succ, List.set_cons_zero, List.set_cons_succ, Option.join_some, Option.map_some, Option.map_none, Option.bind_some, Option.bind_none, ite_true, ite_false, if_true, if_false, eq_self, Int.reduceToNat, Int.toNat_zero, Int.toNat_one, Int.reduceToNat, List.replicate_zero, List.replicate_succ, List.length_cons, List.length_nil, List.map_cons, List.map_nil, List.cons_append, List.nil_append, Nat.reduceSub, Nat.reduceAdd, Nat.zero_add, fp_Regions_0_n, fp_Regions_1_end, fp_Regions_2_ends, fp_Regions_3_n, fp_Regions_3_end, fp_Regions_3_ends, fp_Regions_3_UinitU, fp_Regions_3_take, fp_Regions_3_mark, fp_Regions_3_back, fp_Regions_3_top, fp_Regions_3_marks, fp_Regions_3_twin, fp_Regions_3_UeqU, fp_Regions_3_UneU] | exact rfl)
            | 1 =>
              cases hc1
              cases hc2
              repeat (first | refine And.intro rfl ?_ | apply Exists.intro | refine And.intro (Nat.le_of_ble_eq_true rfl) ?_ | refine And.intro (by decide) ?_ | refine And.intro ⟨_, _, rfl, rfl⟩ ?_ | refine And.intro ⟨_, _, rfl, rfl, rfl⟩ ?_ | refine And.intro (Hz.copy_map _ _) ?_ | refine And.intro (Hz.all_cut (Hz.copy_map _ _)) ?_ | refine And.intro (Hz.pys_map _ _) ?_ | refine And.intro (Hz.real_map _ _) ?_ | refine And.intro Hz.insNo ?_ | refine And.intro (Hz.insOnly tx.i_Regions) ?_ | refine And.intro (Hz.shaped_pl (by ((repeat' (first | exact Hz.pl_int | exact Hz.pl_bool | exact Hz.pl_none | refine Hz.pl_list ?_ | refine Hz.pl_tuple ?_ | exact Hz.plA_nil | refine Hz.plA_cons ?_ ?_ | refine Hz.plA_map (fun _ => ?_) _)); done))) ?_ | refine And.intro (.own _) ?_ | refine And.intro Hz.kit_self ?_ | refine And.intro Hz.notFirst_self ?_ | refine And.intro (show CMul _ _ from .inl ⟨by decide, by decide⟩) ?_ | refine And.intro (show CMul _ _ from .inr ⟨by decide, by decide⟩) ?_ | refine And.intro (show CMod _ _ from (by decide : (0 : Int) < _)) ?_ | refine And.intro (show CDiv _ _ from ⟨by decide, by decide⟩) ?_ | refine And.intro (show CPow _ _ from ⟨by decide, by decide, by decide⟩) ?_ | refine Or.inl (Exists.intro _ (And.intro rfl ?_)) | refine Or.inr (Exists.intro _ (And.intro rfl ?_)) | refine (fun (_ : V) => ?_) | refine (fun (_ : True) => ?_) | simp only [give_dat, give_cst, give_well, pys_nil, pys_consE, py_dat, py_lstE, py_tupE, pys_mapI, pys_mapD, dropsT_nil, dropsT_cons, startT, drop_bor, drop_lz, drop_dat, drop_cst, drop_well, drop_lst, drop_tup, drop_dic, drop_ins, opn_bor, opn_lz, opn_dat, opn_cst, opn_well, opn_lst, opn_tup, opn_dic, opn_ins, cls_bor, cls_lz, cls_dat, cls_cst, cls_well, cls_lst, cls_tup, cls_dic, cls_ins, clsAll_nil, clsAll_some, clsAll_none, Hz.putAt, putc_lst, putc_tup, putc_ins, child_lst, child_tup, child_ins, get_nil, get_cons, put_nil, put_cons, putFT, mask, List.getElem?_cons_zero, List.getElem?_cons_succ, List.set_cons_zero, List.set_cons_succ, Option.join_some, Option.map_some, Option.map_none, Option.bind_some, Option.bind_none, ite_true, ite_false, if_true, if_false, eq_self, Int.reduceToNat, Int.toNat_zero, Int.toNat_one, Int.reduceToNat, List.replicate_zero, List.replicate_succ, List.length_cons, List.length_nil, List.map_cons, List.map_nil, List.cons_append, List.nil_append, Nat.reduceSub, Nat.reduceAdd, Nat.zero_add, fp_Regions_0_n, fp_Regions_1_end, fp_Regions_2_ends, fp_Regions_3_n, fp_Regions_3_end, fp_Regions_3_ends, fp_Regions_3_UinitU, fp_Regions_3_take, fp_Regions_3_mark, fp_Regions_3_back, fp_Regions_3_top, fp_Regions_3_marks, fp_Regions_3_twin, fp_Regions_3_UeqU, fp_Regions_3_UneU] | exact rfl)
              refine ⟨b + 1, by omega, o2, fun _ => ?_⟩
              repeat (first | refine And.intro rfl ?_ | apply Exists.intro | refine And.intro (Nat.le_of_ble_eq_true rfl) ?_ | refine And.intro (by decide) ?_ | refine And.intro ⟨_, _, rfl, rfl⟩ ?_ | refine And.intro ⟨_, _, rfl, rfl, rfl⟩ ?_ | refine And.intro (Hz.copy_map _ _) ?_ | refine And.intro (Hz.all_cut (Hz.copy_map _ _)) ?_ | refine And.intro (Hz.pys_map _ _) ?_ | refine And.intro (Hz.real_map _ _) ?_ | refine And.intro Hz.insNo ?_ | refine And.intro (Hz.insOnly tx.i_Regions) ?_ | refine And.intro (Hz.shaped_pl (by ((repeat' (first | exact Hz.pl_int | exact Hz.pl_bool | exact Hz.pl_none | refine Hz.pl_list ?_ | refine Hz.pl_tuple ?_ | exact Hz.plA_nil | refine Hz.plA_cons ?_ ?_ | refine Hz.plA_map (fun _ => ?_) _)); done))) ?_ | refine And.intro (.own _) ?_ | refine And.intro Hz.kit_self ?_ | refine And.intro Hz.notFirst_self ?_ | refine And.intro (show CMul _ _ from .inl ⟨by decide, by decide⟩) ?_ | refine And.intro (show CMul _ _ from .inr ⟨by decide, by decide⟩) ?_ | refine And.intro (show CMod _ _ from (by decide : (0 : Int) < _)) ?_ | refine And.intro (show CDiv _ _ from ⟨by decide, by decide⟩) ?_ | refine And.intro (show CPow _ _ from ⟨by decide, by decide, by decide⟩) ?_ | refine Or.inl (Exists.intro _ (And.intro rfl ?_)) | refine Or.inr (Exists.intro _ (And.intro rfl ?_)) | refine (fun (_ : V) => ?_) | refine (fun (_ : True) => ?_) | simp only [give_dat, give_cst, give_well, pys_nil, pys_consE, py_dat, py_lstE, py_tupE, pys_mapI, pys_mapD, dropsT_nil, dropsT_cons, startT, drop_bor, drop_lz, drop_dat, drop_cst, drop_well, drop_lst, drop_tup, drop_dic, drop_ins, opn_bor, opn_lz, opn_dat, opn_cst, opn_well, opn_lst, opn_tup, opn_dic, opn_ins, cls_bor, cls_lz, cls_dat, cls_cst, cls_well, cls_lst, cls_tup, cls_dic, cls_ins, clsAll_nil, clsAll_some, clsAll_none, Hz.putAt, putc_lst, putc_tup, putc_ins, child_lst, child_tup, child_ins, get_nil, get_cons, put_nil, put_cons, putFT, mask, List.getElem?_cons_zero, List.getElem?_cons_succ, List.set_cons_zero, List.set_cons_succ, Option.join_some, Option.map_some, Option.map_none, Option.bind_some, Option.bind_none, ite_true, ite_false, if_true, if_false, eq_self, Int.reduceToNat, Int.toNat_zero, Int.toNat_one, Int.reduceToNat, List.replicate_zero, List.replicate_succ, List.length_cons, List.length_nil, List.map_cons, List.map_nil, List.cons_append, List.nil_append, Nat.reduceSub, Nat.reduceAdd, Nat.zero_add, fp_Regions_0_n, fp_Regions_1_end, fp_Regions_2_ends, fp_Regions_3_n, fp_Regions_3_end, fp_Regions_3_ends, fp_Regions_3_UinitU, fp_Regions_3_take, fp_Regions_3_mark, fp_Regions_3_back, fp_Regions_3_top, fp_Regions_3_marks, fp_Regions_3_twin, fp_Regions_3_UeqU, fp_Regions_3_UneU] | exact rfl)
            | i + 2 => cases hc1
          · rintro acc ρ5 ⟨rfl, rfl⟩
            have ed : PyData.eqv (PyData.list [.int p, .int e, .list (es.map .int)]) (PyData.list [.int q, .int f, .list (fs.map .int)]) = decide (p = q ∧ e = f ∧ es = fs) := by
              rw [eqv_list, eqvAll_cons, eqvAll_cons, eqvAll_cons, eqvAll_nil, eqv_int, eqv_int, eqv_list, eqv_ints]
              simp
            have last : ∀ y : Option T, t_law_101 K a (⟨Iv2 a.C_Regions ns (0 + k) (1 + n') other (b + 1), fun t ρ4 => (outO [] 1 post).rt t ρ4, fun ρ4 => AnyR ns ρ4, Iv2 a.C_Regions ns (0 + k) (1 + n') other (b + 1)⟩ : WO) (outX [] 1 ep)
                [some (.dat (.list (ns.map .int))), some (tI (0 + k)), some .well, some (tI (1 + n')), some (tI other), some (.lst [RgT a.C_Regions p e es, RgT a.C_Regions q f fs]), some (.lst [StT p e es, StT q f fs]), some (tI (0 + b)), some (tI w), none, none, y] := fun y => by
              repeat (first | refine And.intro rfl ?_ | apply Exists.intro | refine And.intro (Nat.le_of_ble_eq_true rfl) ?_ | refine And.intro (by decide) ?_ | refine And.intro ⟨_, _, rfl, rfl⟩ ?_ | refine And.intro ⟨_, _, rfl, rfl, rfl⟩ ?_ | refine And.intro (Hz.copy_map _ _) ?_ | refine And.intro (Hz.all_cut (Hz.copy_map _ _)) ?_ | refine And.intro (Hz.pys_map _ _) ?_ | refine And.intro (Hz.real_map _ _) ?_ | refine And.intro Hz.insNo ?_ | refine And.intro (Hz.insOnly tx.i_Regions) ?_ | refine And.intro (Hz.shaped_pl (by ((repeat' (first | exact Hz.pl_int | exact Hz.pl_bool | exact Hz.pl_none | refine Hz.pl_list ?_ | refine Hz.pl_tuple ?_ | exact Hz.plA_nil | refine Hz.plA_cons ?_ ?_ | refine Hz.plA_map (fun _ => ?_) _)); done))) ?_ | refine And.intro (.own _) ?_ | refine And.intro Hz.kit_self ?_ | refine And.intro Hz.notFirst_self ?_ | refine And.intro (show CMul _ _ from .inl ⟨by decide, by decide⟩) ?_ | refine And.intro (show CMul _ _ from .inr ⟨by decide, by decide⟩) ?_ | refine And.intro (show CMod _ _ from (by decide : (0 : Int) < _)) ?_ | refine And.intro (show CDiv _ _ from ⟨by decide, by decide⟩) ?_ | refine And.intro (show CPow _ _ from ⟨by decide, by decide, by decide⟩) ?_ | refine Or.inl (Exists.intro _ (And.intro rfl ?_)) | refine Or.inr (Exists.intro _ (And.intro rfl ?_)) | refine (fun (_ : V) => ?_) | refine (fun (_ : True) => ?_) | simp only [give_dat, give_cst, give_well, pys_nil, pys_consE, py_dat, py_lstE, py_tupE, pys_mapI, pys_mapD, dropsT_nil, dropsT_cons, startT, drop_bor, drop_lz, drop_dat, drop_cst, drop_well, drop_lst, drop_tup, drop_dic, drop_ins, opn_bor, opn_lz, opn_dat, opn_cst, opn_well, opn_lst, opn_tup, opn_dic, opn_ins, cls_bor, cls_lz, cls_dat, cls_cst, cls_well, cls_lst, cls_tup, cls_dic, cls_ins, clsAll_nil, clsAll_some, clsAll_none, Hz.putAt, putc_lst, putc_tup, putc_ins, child_lst, child_tup, child_ins, get_nil, get_cons, put_nil, put_cons, putFT, mask, List.getElem?_cons_zero, List.getElem?_cons_succ, List.set_cons_zero, List.set_cons_succ, Option.join_some, Option.map_some, Option.map_none, Option.bind_some, Option.bind_none, ite_true, ite_false, if_true, if_false, eq_self, Int.reduceToNat, Int.toNat_zero, Int.toNat_one, Int.reduceToNat, List.replicate_zero, List.replicate_succ, List.length_cons, List.length_nil, List.map_cons, List.map_nil, List.cons_append, List.nil_append, Nat.reduceSub, Nat.reduceAdd, Nat.zero_add, fp_Regions_0_n, fp_Regions_1_end, fp_Regions_2_ends, fp_Regions_3_n, fp_Regions_3_end, fp_Regions_3_ends, fp_Regions_3_UinitU, fp_Regions_3_take, fp_Regions_3_mark, fp_Regions_3_back, fp_Regions_3_top, fp_Regions_3_marks, fp_Regions_3_twin, fp_Regions_3_UeqU, fp_Regions_3_UneU] | exact rfl)
              refine fun z z0 z1 _ => ?_
              repeat (first | refine And.intro rfl ?_ | apply Exists.intro | refine And.intro (Nat.le_of_ble_eq_true rfl) ?_ | refine And.intro (by decide) ?_ | refine And.intro ⟨_, _, rfl, rfl⟩ ?_ | refine And.intro ⟨_, _, rfl, rfl, rfl⟩ ?_ | refine And.intro (Hz.copy_map _ _) ?_ | refine And.intro (Hz.all_cut (Hz.copy_map _ _)) ?_ | refine And.intro (Hz.pys_map _ _) ?_ | refine And.intro (Hz.real_map _ _) ?_ | refine And.intro Hz.insNo ?_ | refine And.intro (Hz.insOnly tx.i_Regions) ?_ | refine And.intro (Hz.shaped_pl (by ((repeat' (first | exact Hz.pl_int | exact Hz.pl_bool | exact Hz.pl_none | refine Hz.pl_list ?_ | refine Hz.pl_tuple ?_ | exact Hz.plA_nil | refine Hz.plA_cons ?_ ?_ | refine Hz.plA_map (fun _ => ?_) _)); done))) ?_ | refine And.intro (.own _) ?_ | refine And.intro Hz.kit_self ?_ | refine And.intro Hz.notFirst_self ?_ | refine And.intro (show CMul _ _ from .inl ⟨by decide, by decide⟩) ?_ | refine And.intro (show CMul _ _ from .inr ⟨by decide, by decide⟩) ?_ | refine And.intro (show CMod _ _ from (by decide : (0 : Int) < _)) ?_ | refine And.intro (show CDiv _ _ from ⟨by decide, by decide⟩) ?_ | refine And.intro (show CPow _ _ from ⟨by decide, by decide, by decide⟩) ?_ | refine Or.inl (Exists.intro _ (And.intro rfl ?_)) | refine Or.inr (Exists.intro _ (And.intro rfl ?_)) | refine (fun (_ : V) => ?_) | refine (fun (_ : True) => ?_) | simp only [give_dat, give_cst, give_well, pys_nil, pys_consE, py_dat, py_lstE, py_tupE, pys_mapI, pys_mapD, dropsT_nil, dropsT_cons, startT, drop_bor, drop_lz, drop_dat, drop_cst, drop_well, drop_lst, drop_tup, drop_dic, drop_ins, opn_bor, opn_lz, opn_dat, opn_cst, opn_well, opn_lst, opn_tup, opn_dic, opn_ins, cls_bor, cls_lz, cls_dat, cls_cst, cls_well, cls_lst, cls_tup, cls_dic, cls_ins, clsAll_nil, clsAll_some, clsAll_none, Hz.putAt, putc_lst, putc_tup, putc_ins, child_lst, child_tup, child_ins, get_nil, get_cons, put_nil, put_cons, putFT, mask, List.getElem?_cons_zero, List.getElem?_cons_succ, List.set_cons_zero, List.set_cons_succ, Option.join_some, Option.map_some, Option.map_none, Option.bind_some, Option.bind_none, ite_true, ite_false, if_true, if_false, eq_self, Int.reduceToNat, Int.toNat_zero, Int.toNat_one, Int.reduceToNat, List.replicate_zero, List.replicate_succ, List.length_cons, List.length_nil, List.map_cons, List.map_nil, List.cons_append, List.nil_append, Nat.reduceSub, Nat.reduceAdd, Nat.zero_add, fp_Regions_0_n, fp_Regions_1_end, fp_Regions_2_ends, fp_Regions_3_n, fp_Regions_3_end, fp_Regions_3_ends, fp_Regions_3_UinitU, fp_Regions_3_take, fp_Regions_3_mark, fp_Regions_3_back, fp_Regions_3_top, fp_Regions_3_marks, fp_Regions_3_twin, fp_Regions_3_UeqU, fp_Regions_3_UneU] | exact rfl)
              refine iteI (fun c => ?_) (fun c => ?_)
              · repeat (first | refine And.intro rfl ?_ | apply Exists.intro | refine And.intro (Nat.le_of_ble_eq_true rfl) ?_ | refine And.intro (by decide) ?_ | refine And.intro ⟨_, _, rfl, rfl⟩ ?_ | refine And.intro ⟨_, _, rfl, rfl, rfl⟩ ?_ | refine And.intro (Hz.copy_map _ _) ?_ | refine And.intro (Hz.all_cut (Hz.copy_map _ _)) ?_ | refine And.intro (Hz.pys_map _ _) ?_ | refine And.intro (Hz.real_map _ _) ?_ | refine And.intro Hz.insNo ?_ | refine And.intro (Hz.insOnly tx.i_Regions) ?_ | refine And.intro (Hz.shaped_pl (by ((repeat' (first | exact Hz.pl_int | exact Hz.pl_bool | exact Hz.pl_none | refine Hz.pl_list ?_ | refine Hz.pl_tuple ?_ | exact Hz.plA_nil | refine Hz.plA_cons ?_ ?_ | refine Hz.plA_map (fun _ => ?_) _)); done))) ?_ | refine And.intro (.own _) ?_ | refine And.intro Hz.kit_self ?_ | refine And.intro Hz.notFirst_self ?_ | refine And.intro (show CMul _ _ from .inl ⟨by decide, by decide⟩) ?_ | refine And.intro (show CMul _ _ from .inr ⟨by decide, by decide⟩) ?_ | refine And.intro (show CMod _ _ from (by decide : (0 : Int) < _)) ?_ | refine And.intro (show CDiv _ _ from ⟨by decide, by decide⟩) ?_ | refine And.intro (show CPow _ _ from ⟨by decide, by decide, by decide⟩) ?_ | refine Or.inl (Exists.intro _ (And.intro rfl ?_)) | refine Or.inr (Exists.intro _ (And.intro rfl ?_)) | refine (fun (_ : V) => ?_) | refine (fun (_ : True) => ?_) | simp only [give_dat, give_cst, give_well, pys_nil, pys_consE, py_dat, py_lstE, py_tupE, pys_mapI, pys_mapD, dropsT_nil, dropsT_cons, startT, drop_bor, drop_lz, drop_dat, drop_cst, drop_well, drop_lst, drop_tup, drop_dic, drop_ins, opn_bor, opn_lz, opn_dat, opn_cst, opn_well, opn_lst, opn_tup, opn_dic, opn_ins, cls_bor, cls_lz, cls_dat, cls_cst, cls_well, cls_lst, cls_tup, cls_dic, cls_ins, clsAll_nil, clsAll_some, clsAll_none, Hz.putAt, putc_lst, putc_tup, putc_ins, child_lst, child_tup, child_ins, get_nil, get_cons, put_nil, put_cons, putFT, mask, List.getElem?_cons_zero, List.getElem?_cons_succ, List.set_cons_zero, List.set_cons_succ, Option.join_some, Option.map_some, Option.map_none, Option.bind_some, Option.bind_none, ite_true, ite_false, if_true, if_false, eq_self, Int.reduceToNat, Int.toNat_zero, Int.toNat_one, Int.reduceToNat, List.replicate_zero, List.replicate_succ, List.length_cons, List.length_nil, List.map_cons, List.map_nil, List.cons_append, List.nil_append, Nat.reduceSub, Nat.reduceAdd, Nat.zero_add, fp_Regions_0_n, fp_Regions_1_end, fp_Regions_2_ends, fp_Regions_3_n, fp_Regions_3_end, fp_Regions_3_ends, fp_Regions_3_UinitU, fp_Regions_3_take, fp_Regions_3_mark, fp_Regions_3_back, fp_Regions_3_top, fp_Regions_3_marks, fp_Regions_3_twin, fp_Regions_3_UeqU, fp_Regions_3_UneU] | exact rfl)
                refine ⟨o1.n1, o1.n2, fun _ => ?_⟩
                repeat (first | refine And.intro rfl ?_ | apply Exists.intro | refine And.intro (Nat.le_of_ble_eq_true rfl) ?_ | refine And.intro (by decide) ?_ | refine And.intro ⟨_, _, rfl, rfl⟩ ?_ | refine And.intro ⟨_, _, rfl, rfl, rfl⟩ ?_ | refine And.intro (Hz.copy_map _ _) ?_ | refine And.intro (Hz.all_cut (Hz.copy_map _ _)) ?_ | refine And.intro (Hz.pys_map _ _) ?_ | refine And.intro (Hz.real_map _ _) ?_ | refine And.intro Hz.insNo ?_ | refine And.intro (Hz.insOnly tx.i_Regions) ?_ | refine And.intro (Hz.shaped_pl (by ((repeat' (first | exact Hz.pl_int | exact Hz.pl_bool | exact Hz.pl_none | refine Hz.pl_list ?_ | refine Hz.pl_tuple ?_ | exact Hz.plA_nil | refine Hz.plA_cons ?_ ?_ | refine Hz.plA_map (fun _ => ?_) _)); done))) ?_ | refine And.intro (.own _) ?_ | refine And.intro Hz.kit_self ?_ | refine And.intro Hz.notFirst_self ?_ | refine And.intro (show CMul _ _ from .inl ⟨by decide, by decide⟩) ?_ | refine And.intro (show CMul _ _ from .inr ⟨by decide, by decide⟩) ?_ | refine And.intro (show CMod _ _ from (by decide : (0 : Int) < _)) ?_ | refine And.intro (show CDiv _ _ from ⟨by decide, by decide⟩) ?_ | refine And.intro (show CPow _ _ from ⟨by decide, by decide, by decide⟩) ?_ | refine Or.inl (Exists.intro _ (And.intro rfl ?_)) | refine Or.inr (Exists.intro _ (And.intro rfl ?_)) | refine (fun (_ : V) => ?_) | refine (fun (_ : True) => ?_) | simp only [give_dat, give_cst, give_well, pys_nil, pys_consE, py_dat, py_lstE, py_tupE, pys_mapI, pys_mapD, dropsT_nil, dropsT_cons, startT, drop_bor, drop_lz, drop_dat, drop_cst, drop_well, drop_lst, drop_tup, drop_dic, drop_ins, opn_bor, opn_lz, opn_dat, opn_cst, opn_well, opn_lst, opn_tup, opn_dic, opn_ins, cls_bor, cls_lz, cls_dat, cls_cst, cls_well, cls_lst, cls_tup, cls_dic, cls_ins, clsAll_nil, clsAll_some, clsAll_none, Hz.putAt, putc_lst, putc_tup, putc_ins, child_lst, child_tup, child_ins, get_nil, get_cons, put_nil, put_cons, putFT, mask, List.getElem?_cons_zero, List.getElem?_cons_succ, List.set_cons_zero, List.set_cons_succ, Option.join_some, Option.map_some, Option.map_none, Option.bind_some, Option.bind_none, ite_true, ite_false, if_true, if_false, eq_self, Int.reduceToNat, Int.toNat_zero, Int.toNat_one, Int.reduceToNat, List.replicate_zero, List.replicate_succ, List.length_cons, List.length_nil, List.map_cons, List.map_nil, List.cons_append, List.nil_append, Nat.reduceSub, Nat.reduceAdd, Nat.zero_add, fp_Regions_0_n, fp_Regions_1_end, fp_Regions_2_ends, fp_Regions_3_n, fp_Regions_3_end, fp_Regions_3_ends, fp_Regions_3_UinitU, fp_Regions_3_take, fp_Regions_3_mark, fp_Regions_3_back, fp_Regions_3_top, fp_Regions_3_marks, fp_Regions_3_twin, fp_Regions_3_UeqU, fp_Regions_3_UneU] | exact rfl)
                exact ⟨o1, o1⟩
              · exact ⟨_, _, _, _, _, _, _, _, _, _, _, rfl, o1, o2⟩
            generalize hD : decide (p = q ∧ e = f ∧ es = fs) = D at ed
            repeat (first | refine And.intro rfl ?_ | apply Exists.intro | refine And.intro (Nat.le_of_ble_eq_true rfl) ?_ | refine And.intro (by decide) ?_ | refine And.intro ⟨_, _, rfl, rfl⟩ ?_ | refine And.intro ⟨_, _, rfl, rfl, rfl⟩ ?_ | refine And.intro (Hz.copy_map _ _) ?_ | refine And.intro (Hz.all_cut (Hz.copy_map _ _)) ?_ | refine And.intro (Hz.pys_map _ _) ?_ | refine And.intro (Hz.real_map _ _) ?_ | refine And.intro Hz.insNo ?_ | refine And.intro (Hz.insOnly tx.i_Regions) ?_ | refine And.intro (Hz.shaped_pl (by ((repeat' (first | exact Hz.pl_int | exact Hz.pl_bool | exact Hz.pl_none | refine Hz.pl_list ?_ | refine Hz.pl_tuple ?_ | exact Hz.plA_nil | refine Hz.plA_cons ?_ ?_ | refine Hz.plA_map (fun _ => ?_) _)); done))) ?_ | refine And.intro (.own _) ?_ | refine And.intro Hz.kit_self ?_ | refine And.intro Hz.notFirst_self ?_ | refine And.intro (show CMul _ _ from .inl ⟨by decide, by decide⟩) ?_ | refine And.intro (show CMul _ _ from .inr ⟨by decide, by decide⟩) ?_ | refine And.intro (show CMod _ _ from (by decide : (0 : Int) < _)) ?_ | refine And.intro (show CDiv _ _ from ⟨by decide, by decide⟩) ?_ | refine And.intro (show CPow _ _ from ⟨by decide, by decide, by decide⟩) ?_ | refine Or.inl (Exists.intro _ (And.intro rfl ?_)) | refine Or.inr (Exists.intro _ (And.intro rfl ?_)) | refine (fun (_ : V) => ?_) | refine (fun (_ : True) => ?_) | simp only [give_dat, give_cst, give_well, pys_nil, pys_consE, py_dat, py_lstE, py_tupE, pys_mapI, pys_mapD, dropsT_nil, dropsT_cons, startT, drop_bor, drop_lz, drop_dat, drop_cst, drop_well, drop_lst, drop_tup, drop_dic, drop_ins, opn_bor, opn_lz, opn_dat, opn_cst, opn_well, opn_lst, opn_tup, opn_dic, opn_ins, cls_bor, cls_lz, cls_dat, cls_cst, cls_well, cls_lst, cls_tup, cls_dic, cls_ins, clsAll_nil, clsAll_some, clsAll_none, Hz.putAt, putc_lst, putc_tup, putc_ins, child_lst, child_tup, child_ins, get_nil, get_cons, put_nil, put_cons, putFT, mask, List.getElem?_cons_zero, List.getElem?_cons_succ, List.set_cons_zero, List.set_cons_succ, Option.join_some, Option.map_some, Option.map_none, Option.bind_some, Option.bind_none, ite_true, ite_false, if_true, if_false, eq_self, Int.reduceToNat, Int.toNat_zero, Int.toNat_one, Int.reduceToNat, List.replicate_zero, List.replicate_succ, List.length_cons, List.length_nil, List.map_cons, List.map_nil, List.cons_append, List.nil_append, Nat.reduceSub, Nat.reduceAdd, Nat.zero_add, fp_Regions_0_n, fp_Regions_1_end, fp_Regions_2_ends, fp_Regions_3_n, fp_Regions_3_end, fp_Regions_3_ends, fp_Regions_3_UinitU, fp_Regions_3_take, fp_Regions_3_mark, fp_Regions_3_back, fp_Regions_3_top, fp_Regions_3_marks, fp_Regions_3_twin, fp_Regions_3_UeqU, fp_Regions_3_UneU] | exact rfl)
            rw [if_neg Bool.false_ne_true, ed]
            refine .inl ⟨p, e, q, f, es, fs, rfl, fun _ => ?_⟩
            rw [hD]
            cases D
            · repeat (first | refine And.intro rfl ?_ | apply Exists.intro | refine And.intro (Nat.le_of_ble_eq_true rfl) ?_ | refine And.intro (by decide) ?_ | refine And.intro ⟨_, _, rfl, rfl⟩ ?_ | refine And.intro ⟨_, _, rfl, rfl, rfl⟩ ?_ | refine And.intro (Hz.copy_map _ _) ?_ | refine And.intro (Hz.all_cut (Hz.copy_map _ _)) ?_ | refine And.intro (Hz.pys_map _ _) ?_ | refine And.intro (Hz.real_map _ _) ?_ | refine And.intro Hz.insNo ?_ | refine And.intro (Hz.insOnly tx.i_Regions) ?_ | refine And.intro (Hz.shaped_pl (by ((repeat' (first | exact Hz.pl_int | exact Hz.pl_bool | exact Hz.pl_none | refine Hz.pl_list ?_ | refine Hz.pl_tuple ?_ | exact Hz.plA_nil | refine Hz.plA_cons ?_ ?_ | refine Hz.plA_map (fun _ => ?_) _)); done))) ?_ | refine And.intro (.own _) ?_ | refine And.intro Hz.kit_self ?_ | refine And.intro Hz.notFirst_self ?_ | refine And.intro (show CMul _ _ from .inl ⟨by decide, by decide⟩) ?_ | refine And.intro (show CMul _ _ from .inr ⟨by decide, by decide⟩) ?_ | refine And.intro (show CMod _ _ from (by decide : (0 : Int) < _)) ?_ | refine And.intro (show CDiv _ _ from ⟨by decide, by decide⟩) ?_ | refine And.intro (show CPow _ _ from ⟨by decide, by decide, by decide⟩) ?_ | refine Or.inl (Exists.intro _ (And.intro rfl ?_)) | refine Or.inr (Exists.intro _ (And.intro rfl ?_)) | refine (fun (_ : V) => ?_) | refine (fun (_ : True) => ?_) | simp only [give_dat, give_cst, give_well, pys_nil, pys_consE, py_dat, py_lstE, py_tupE, pys_mapI, pys_mapD, dropsT_nil, dropsT_cons, startT, drop_bor, drop_lz, drop_dat, drop_cst, drop_well, drop_lst, drop_tup, drop_dic, drop_ins, opn_bor, opn_lz, opn_dat, opn_cst, opn_well, opn_lst, opn_tup, opn_dic, opn_ins, cls_bor, cls_lz, cls_dat, cls_cst, cls_well, cls_lst, cls_tup, cls_dic, cls_ins, clsAll_nil, clsAll_some, clsAll_none, Hz.putAt, putc_lst, putc_tup, putc_ins, child_lst, child_tup, child_ins, get_nil, get_cons, put_nil, put_cons, putFT, mask, List.getElem?_cons_zero, List.getElem?_cons_succ, List.set_cons_zero, List.set_cons_succ, Option.join_some, Option.map_some, Option.map_none, Option.bind_some, Option.bind_none, ite_true, ite_false, if_true, if_false, eq_self, Int.reduceToNat, Int.toNat_zero, Int.toNat_one, Int.reduceToNat, List.replicate_zero, List.replicate_succ, List.length_cons, List.length_nil, List.map_cons, List.map_nil, List.cons_append, List.nil_append, Nat.reduceSub, Nat.reduceAdd, Nat.zero_add, fp_Regions_0_n, fp_Regions_1_end, fp_Regions_2_ends, fp_Regions_3_n, fp_Regions_3_end, fp_Regions_3_ends, fp_Regions_3_UinitU, fp_Regions_3_take, fp_Regions_3_mark, fp_Regions_3_back, fp_Regions_3_top, fp_Regions_3_marks, fp_Regions_3_twin, fp_Regions_3_UeqU, fp_Regions_3_UneU] | exact rfl)
              rw [hD]
              repeat (first | refine And.intro rfl ?_ | apply Exists.intro | refine And.intro (Nat.le_of_ble_eq_true rfl) ?_ | refine And.intro (by decide) ?_ | refine And.intro ⟨_, _, rfl, rfl⟩ ?_ | refine And.intro ⟨_, _, rfl, rfl, rfl⟩ ?_ | refine And.intro (Hz.copy_map _ _) ?_ | refine And.intro (Hz.all_cut (Hz.copy_map _ _)) ?_ | refine And.intro (Hz.pys_map _ _) ?_ | refine And.intro (Hz.real_map _ _) ?_ | refine And.intro Hz.insNo ?_ | refine And.intro (Hz.insOnly tx.i_Regions) ?_ | refine And.intro (Hz.shaped_pl (by ((repeat' (first | exact Hz.pl_int | exact Hz.pl_bool | exact Hz.pl_none | refine Hz.pl_list ?_ | refine Hz.pl_tuple ?_ | exact Hz.plA_nil | refine Hz.plA_cons ?_ ?_ | refine Hz.plA_map (fun _ => ?_) _)); done))) ?_ | refine And.intro (.own _) ?_ | refine And.intro Hz.kit_self ?_ | refine And.intro Hz.notFirst_self ?_ | refine And.intro (show CMul _ _ from .inl ⟨by decide, by decide⟩) ?_ | refine And.intro (show CMul _ _ from .inr ⟨by decide, by decide⟩) ?_ | refine And.intro (show CMod _ _ from (by decide : (0 : Int) < _)) ?_ | refine And.intro (show CDiv _ _ from ⟨by decide, by decide⟩) ?_ | refine And.intro (show CPow _ _ from ⟨by decide, by decide, by decide⟩) ?_ | refine Or.inl (Exists.intro _ (And.intro rfl ?_)) | refine Or.inr (Exists.intro _ (And.intro rfl ?_)) | refine (fun (_ : V) => ?_) | refine (fun (_ : True) => ?_) | simp only [give_dat, give_cst, give_well, pys_nil, pys_consE, py_dat, py_lstE, py_tupE, pys_mapI, pys_mapD, dropsT_nil, dropsT_cons, startT, drop_bor, drop_lz, drop_dat, drop_cst, drop_well, drop_lst, drop_tup, drop_dic, drop_ins, opn_bor, opn_lz, opn_dat, opn_cst, opn_well, opn_lst, opn_tup, opn_dic, opn_ins, cls_bor, cls_lz, cls_dat, cls_cst, cls_well, cls_lst, cls_tup, cls_dic, cls_ins, clsAll_nil, clsAll_some, clsAll_none, Hz.putAt, putc_lst, putc_tup, putc_ins, child_lst, child_tup, child_ins, get_nil, get_cons, put_nil, put_cons, putFT, mask, List.getElem?_cons_zero, List.getElem?_cons_succ, List.set_cons_zero, List.set_cons_succ, Option.join_some, Option.map_some, Option.map_none, Option.bind_some, Option.bind_none, ite_true, ite_false, if_true, if_false, eq_self, Int.reduceToNat, Int.toNat_zero, Int.toNat_one, Int.reduceToNat, List.replicate_zero, List.replicate_succ, List.length_cons, List.length_nil, List.map_cons, List.map_nil, List.cons_append, List.nil_append, Nat.reduceSub, Nat.reduceAdd, Nat.zero_add, fp_Regions_0_n, fp_Regions_1_end, fp_Regions_2_ends, fp_Regions_3_n, fp_Regions_3_end, fp_Regions_3_ends, fp_Regions_3_UinitU, fp_Regions_3_take, fp_Regions_3_mark, fp_Regions_3_back, fp_Regions_3_top, fp_Regions_3_marks, fp_Regions_3_twin, fp_Regions_3_UeqU, fp_Regions_3_UneU] | exact rfl)
              refine .inr ⟨p, e, es, _, rfl, .inr ⟨_, rfl⟩, fun _ => ?_⟩
              repeat (first | refine And.intro rfl ?_ | apply Exists.intro | refine And.intro (Nat.le_of_ble_eq_true rfl) ?_ | refine And.intro (by decide) ?_ | refine And.intro ⟨_, _, rfl, rfl⟩ ?_ | refine And.intro ⟨_, _, rfl, rfl, rfl⟩ ?_ | refine And.intro (Hz.copy_map _ _) ?_ | refine And.intro (Hz.all_cut (Hz.copy_map _ _)) ?_ | refine And.intro (Hz.pys_map _ _) ?_ | refine And.intro (Hz.real_map _ _) ?_ | refine And.intro Hz.insNo ?_ | refine And.intro (Hz.insOnly tx.i_Regions) ?_ | refine And.intro (Hz.shaped_pl (by ((repeat' (first | exact Hz.pl_int | exact Hz.pl_bool | exact Hz.pl_none | refine Hz.pl_list ?_ | refine Hz.pl_tuple ?_ | exact Hz.plA_nil | refine Hz.plA_cons ?_ ?_ | refine Hz.plA_map (fun _ => ?_) _)); done))) ?_ | refine And.intro (.own _) ?_ | refine And.intro Hz.kit_self ?_ | refine And.intro Hz.notFirst_self ?_ | refine And.intro (show CMul _ _ from .inl ⟨by decide, by decide⟩) ?_ | refine And.intro (show CMul _ _ from .inr ⟨by decide, by decide⟩) ?_ | refine And.intro (show CMod _ _ from (by decide : (0 : Int) < _)) ?_ | refine And.intro (show CDiv _ _ from ⟨by decide, by decide⟩) ?_ | refine And.intro (show CPow _ _ from ⟨by decide, by decide, by decide⟩) ?_ | refine Or.inl (Exists.intro _ (And.intro rfl ?_)) | refine Or.inr (Exists.intro _ (And.intro rfl ?_)) | refine (fun (_ : V) => ?_) | refine (fun (_ : True) => ?_) | simp only [give_dat, give_cst, give_well, pys_nil, pys_consE, py_dat, py_lstE, py_tupE, pys_mapI, pys_mapD, dropsT_nil, dropsT_cons, startT, drop_bor, drop_lz, drop_dat, drop_cst, drop_well, drop_lst, drop_tup, drop_dic, drop_ins, opn_bor, opn_lz, opn_dat, opn_cst, opn_well, opn_lst, opn_tup, opn_dic, opn_ins, cls_bor, cls_lz, cls_dat, cls_cst, cls_well, cls_lst, cls_tup, cls_dic, cls_ins, clsAll_nil, clsAll_some, clsAll_none, Hz.putAt, putc_lst, putc_tup, putc_ins, child_lst, child_tup, child_ins, get_nil, get_cons, put_nil, put_cons, putFT, mask, List.getElem?_cons_zero, List.getElem?_cons_succ, List.set_cons_zero, List.set_cons_succ, Option.join_some, Option.map_some, Option.map_none, Option.bind_some, Option.bind_none, ite_true, ite_false, if_true, if_false, eq_self, Int.reduceToNat, Int.toNat_zero, Int.toNat_one, Int.reduceToNat, List.replicate_zero, List.replicate_succ, List.length_cons, List.length_nil, List.map_cons, List.map_nil, List.cons_append, List.nil_append, Nat.reduceSub, Nat.reduceAdd, Nat.zero_add, fp_Regions_0_n, fp_Regions_1_end, fp_Regions_2_ends, fp_Regions_3_n, fp_Regions_3_end, fp_Regions_3_ends, fp_Regions_3_UinitU, fp_Regions_3_take, fp_Regions_3_mark, fp_Regions_3_back, fp_Regions_3_top, fp_Regions_3_marks, fp_Regions_3_twin, fp_Regions_3_UeqU, fp_Regions_3_UneU] | exact rfl)
              refine .inr ⟨p, e, es, _, rfl, .inl rfl, fun _ => ?_⟩
              repeat (first | refine And.intro rfl ?_ | apply Exists.intro | refine And.intro (Nat.le_of_ble_eq_true rfl) ?_ | refine And.intro (by decide) ?_ | refine And.intro ⟨_, _, rfl, rfl⟩ ?_ | refine And.intro ⟨_, _, rfl, rfl, rfl⟩ ?_ | refine And.intro (Hz.copy_map _ _) ?_ | refine And.intro (Hz.all_cut (Hz.copy_map _ _)) ?_ | refine And.intro (Hz.pys_map _ _) ?_ | refine And.intro (Hz.real_map _ _) ?_ | refine And.intro Hz.insNo ?_ | refine And.intro (Hz.insOnly tx.i_Regions) ?_ | refine And.intro (Hz.shaped_pl (by ((repeat' (first | exact Hz.pl_int | exact Hz.pl_bool | exact Hz.pl_none | refine Hz.pl_list ?_ | refine Hz.pl_tuple ?_ | exact Hz.plA_nil | refine Hz.plA_cons ?_ ?_ | refine Hz.plA_map (fun _ => ?_) _)); done))) ?_ | refine And.intro (.own _) ?_ | refine And.intro Hz.kit_self ?_ | refine And.intro Hz.notFirst_self ?_ | refine And.intro (show CMul _ _ from .inl ⟨by decide, by decide⟩) ?_ | refine And.intro (show CMul _ _ from .inr ⟨by decide, by decide⟩) ?_ | refine And.intro (show CMod _ _ from (by decide : (0 : Int) < _)) ?_ | refine And.intro (show CDiv _ _ from ⟨by decide, by decide⟩) ?_ | refine And.intro (show CPow _ _ from ⟨by decide, by decide, by decide⟩) ?_ | refine Or.inl (Exists.intro _ (And.intro rfl ?_)) | refine Or.inr (Exists.intro _ (And.intro rfl ?_)) | refine (fun (_ : V) => ?_) | refine (fun (_ : True) => ?_) | simp only [give_dat, give_cst, give_well, pys_nil, pys_consE, py_dat, py_lstE, py_tupE, pys_mapI, pys_mapD, dropsT_nil, dropsT_cons, startT, drop_bor, drop_lz, drop_dat, drop_cst, drop_well, drop_lst, drop_tup, drop_dic, drop_ins, opn_bor, opn_lz, opn_dat, opn_cst, opn_well, opn_lst, opn_tup, opn_dic, opn_ins, cls_bor, cls_lz, cls_dat, cls_cst, cls_well, cls_lst, cls_tup, cls_dic, cls_ins, clsAll_nil, clsAll_some, clsAll_none, Hz.putAt, putc_lst, putc_tup, putc_ins, child_lst, child_tup, child_ins, get_nil, get_cons, put_nil, put_cons, putFT, mask, List.getElem?_cons_zero, List.getElem?_cons_succ, List.set_cons_zero, List.set_cons_succ, Option.join_some, Option.map_some, Option.map_none, Option.bind_some, Option.bind_none, ite_true, ite_false, if_true, if_false, eq_self, Int.reduceToNat, Int.toNat_zero, Int.toNat_one, Int.reduceToNat, List.replicate_zero, List.replicate_succ, List.length_cons, List.length_nil, List.map_cons, List.map_nil, List.cons_append, List.nil_append, Nat.reduceSub, Nat.reduceAdd, Nat.zero_add, fp_Regions_0_n, fp_Regions_1_end, fp_Regions_2_ends, fp_Regions_3_n, fp_Regions_3_end, fp_Regions_3_ends, fp_Regions_3_UinitU, fp_Regions_3_take, fp_Regions_3_mark, fp_Regions_3_back, fp_Regions_3_top, fp_Regions_3_marks, fp_Regions_3_twin, fp_Regions_3_UeqU, fp_Regions_3_UneU] | exact rfl)
              exact ⟨last _⟩
            · repeat (first | refine And.intro rfl ?_ | apply Exists.intro | refine And.intro (Nat.le_of_ble_eq_true rfl) ?_ | refine And.intro (by decide) ?_ | refine And.intro ⟨_, _, rfl, rfl⟩ ?_ | refine And.intro ⟨_, _, rfl, rfl, rfl⟩ ?_ | refine And.intro (Hz.copy_map _ _) ?_ | refine And.intro (Hz.all_cut (Hz.copy_map _ _)) ?_ | refine And.intro (Hz.pys_map _ _) ?_ | refine And.intro (Hz.real_map _ _) ?_ | refine And.intro Hz.insNo ?_ | refine And.intro (Hz.insOnly tx.i_Regions) ?_ | refine And.intro (Hz.shaped_pl (by ((repeat' (first | exact Hz.pl_int | exact Hz.pl_bool | exact Hz.pl_none | refine Hz.pl_list ?_ | refine Hz.pl_tuple ?_ | exact Hz.plA_nil | refine Hz.plA_cons ?_ ?_ | refine Hz.plA_map (fun _ => ?_) _)); done))) ?_ | refine And.intro (.own _) ?_ | refine And.intro Hz.kit_self ?_ | refine And.intro Hz.notFirst_self ?_ | refine And.intro (show CMul _ _ from .inl ⟨by decide, by decide⟩) ?_ | refine And.intro (show CMul _ _ from .inr ⟨by decide, by decide⟩) ?_ | refine And.intro (show CMod _ _ from (by decide : (0 : Int) < _)) ?_ | refine And.intro (show CDiv _ _ from ⟨by decide, by decide⟩) ?_ | refine And.intro (show CPow _ _ from ⟨by decide, by decide, by decide⟩) ?_ | refine Or.inl (Exists.intro _ (And.intro rfl ?_)) | refine Or.inr (Exists.intro _ (And.intro rfl ?_)) | refine (fun (_ : V) => ?_) | refine (fun (_ : True) => ?_) | simp only [give_dat, give_cst, give_well, pys_nil, pys_consE, py_dat, py_lstE, py_tupE, pys_mapI, pys_mapD, dropsT_nil, dropsT_cons, startT, drop_bor, drop_lz, drop_dat, drop_cst, drop_well, drop_lst, drop_tup, drop_dic, drop_ins, opn_bor, opn_lz, opn_dat, opn_cst, opn_well, opn_lst, opn_tup, opn_dic, opn_ins, cls_bor, cls_lz, cls_dat, cls_cst, cls_well, cls_lst, cls_tup, cls_dic, cls_ins, clsAll_nil, clsAll_some, clsAll_none, Hz.putAt, putc_lst, putc_tup, putc_ins, child_lst, child_tup, child_ins, get_nil, get_cons, put_nil, put_cons, putFT, mask, List.getElem?_cons_zero, List.getElem?_cons_succ, List.set_cons_zero, List.set_cons_succ, Option.join_some, Option.map_some, Option.map_none, Option.bind_some, Option.bind_none, ite_true, ite_false, if_true, if_false, eq_self, Int.reduceToNat, Int.toNat_zero, Int.toNat_one, Int.reduceToNat, List.replicate_zero, List.replicate_succ, List.length_cons, List.length_nil, List.map_cons, List.map_nil, List.cons_append, List.nil_append, Nat.reduceSub, Nat.reduceAdd, Nat.zero_add, fp_Regions_0_n, fp_Regions_1_end, fp_Regions_2_ends, fp_Regions_3_n, fp_Regions_3_end, fp_Regions_3_ends, fp_Regions_3_UinitU, fp_Regions_3_take, fp_Regions_3_mark, fp_Regions_3_back, fp_Regions_3_top, fp_Regions_3_marks, fp_Regions_3_twin, fp_Regions_3_UeqU, fp_Regions_3_UneU] | exact rfl)
              rw [hD]
              repeat (first | refine And.intro rfl ?_ | apply Exists.intro | refine And.intro (Nat.le_of_ble_eq_true rfl) ?_ | refine And.intro (by decide) ?_ | refine And.intro ⟨_, _, rfl, rfl⟩ ?_ | refine And.intro ⟨_, _, rfl, rfl, rfl⟩ ?_ | refine And.intro (Hz.copy_map _ _) ?_ | refine And.intro (Hz.all_cut (Hz.copy_map _ _)) ?_ | refine And.intro (Hz.pys_map _ _) ?_ | refine And.intro (Hz.real_map _ _) ?_ | refine And.intro Hz.insNo ?_ | refine And.intro (Hz.insOnly tx.i_Regions) ?_ | refine And.intro (Hz.shaped_pl (by ((repeat' (first | exact Hz.pl_int | exact Hz.pl_bool | exact Hz.pl_none | refine Hz.pl_list ?_ | refine Hz.pl_tuple ?_ | exact Hz.plA_nil | refine Hz.plA_cons ?_ ?_ | refine Hz.plA_map (fun _ => ?_) _)); done))) ?_ | refine And.intro (.own _) ?_ | refine And.intro Hz.kit_self ?_ | refine And.intro Hz.notFirst_self ?_ | refine And.intro (show CMul _ _ from .inl ⟨by decide, by decide⟩) ?_ | refine And.intro (show CMul _ _ from .inr ⟨by decide, by decide⟩) ?_ | refine And.intro (show CMod _ _ from (by decide : (0 : Int) < _)) ?_ | refine And.intro (show CDiv _ _ from ⟨by decide, by decide⟩) ?_ | refine And.intro (show CPow _ _ from ⟨by decide, by decide, by decide⟩) ?_ | refine Or.inl (Exists.intro _ (And.intro rfl ?_)) | refine Or.inr (Exists.intro _ (And.intro rfl ?_)) | refine (fun (_ : V) => ?_) | refine (fun (_ : True) => ?_) | simp only [give_dat, give_cst, give_well, pys_nil, pys_consE, py_dat, py_lstE, py_tupE, pys_mapI, pys_mapD, dropsT_nil, dropsT_cons, startT, drop_bor, drop_lz, drop_dat, drop_cst, drop_well, drop_lst, drop_tup, drop_dic, drop_ins, opn_bor, opn_lz, opn_dat, opn_cst, opn_well, opn_lst, opn_tup, opn_dic, opn_ins, cls_bor, cls_lz, cls_dat, cls_cst, cls_well, cls_lst, cls_tup, cls_dic, cls_ins, clsAll_nil, clsAll_some, clsAll_none, Hz.putAt, putc_lst, putc_tup, putc_ins, child_lst, child_tup, child_ins, get_nil, get_cons, put_nil, put_cons, putFT, mask, List.getElem?_cons_zero, List.getElem?_cons_succ, List.set_cons_zero, List.set_cons_succ, Option.join_some, Option.map_some, Option.map_none, Option.bind_some, Option.bind_none, ite_true, ite_false, if_true, if_false, eq_self, Int.reduceToNat, Int.toNat_zero, Int.toNat_one, Int.reduceToNat, List.replicate_zero, List.replicate_succ, List.length_cons, List.length_nil, List.map_cons, List.map_nil, List.cons_append, List.nil_append, Nat.reduceSub, Nat.reduceAdd, Nat.zero_add, fp_Regions_0_n, fp_Regions_1_end, fp_Regions_2_ends, fp_Regions_3_n, fp_Regions_3_end, fp_Regions_3_ends, fp_Regions_3_UinitU, fp_Regions_3_take, fp_Regions_3_mark, fp_Regions_3_back, fp_Regions_3_top, fp_Regions_3_marks, fp_Regions_3_twin, fp_Regions_3_UeqU, fp_Regions_3_UneU] | exact rfl)
              refine .inr ⟨p, e, es, _, rfl, .inr ⟨_, rfl⟩, fun _ => ?_⟩
              repeat (first | refine And.intro rfl ?_ | apply Exists.intro | refine And.intro (Nat.le_of_ble_eq_true rfl) ?_ | refine And.intro (by decide) ?_ | refine And.intro ⟨_, _, rfl, rfl⟩ ?_ | refine And.intro ⟨_, _, rfl, rfl, rfl⟩ ?_ | refine And.intro (Hz.copy_map _ _) ?_ | refine And.intro (Hz.all_cut (Hz.copy_map _ _)) ?_ | refine And.intro (Hz.pys_map _ _) ?_ | refine And.intro (Hz.real_map _ _) ?_ | refine And.intro Hz.insNo ?_ | refine And.intro (Hz.insOnly tx.i_Regions) ?_ | refine And.intro (Hz.shaped_pl (by ((repeat' (first | exact Hz.pl_int | exact Hz.pl_bool | exact Hz.pl_none | refine Hz.pl_list ?_ | refine Hz.pl_tuple ?_ | exact Hz.plA_nil | refine Hz.plA_cons ?_ ?_ | refine Hz.plA_map (fun _ => ?_) _)); done))) ?_ | refine And.intro (.own _) ?_ | refine And.intro Hz.kit_self ?_ | refine And.intro Hz.notFirst_self ?_ | refine And.intro (show CMul _ _ from .inl ⟨by decide, by decide⟩) ?_ | refine And.intro (show CMul _ _ from .inr ⟨by decide, by decide⟩) ?_ | refine And.intro (show CMod _ _ from (by decide : (0 : Int) < _)) ?_ | refine And.intro (show CDiv _ _ from ⟨by decide, by decide⟩) ?_ | refine And.intro (show CPow _ _ from ⟨by decide, by decide, by decide⟩) ?_ | refine Or.inl (Exists.intro _ (And.intro rfl ?_)) | refine Or.inr (Exists.intro _ (And.intro rfl ?_)) | refine (fun (_ : V) => ?_) | refine (fun (_ : True) => ?_) | simp only [give_dat, give_cst, give_well, pys_nil, pys_consE, py_dat, py_lstE, py_tupE, pys_mapI, pys_mapD, dropsT_nil, dropsT_cons, startT, drop_bor, drop_lz, drop_dat, drop_cst, drop_well, drop_lst, drop_tup, drop_dic, drop_ins, opn_bor, opn_lz, opn_dat, opn_cst, opn_well, opn_lst, opn_tup, opn_dic, opn_ins, cls_bor, cls_lz, cls_dat, cls_cst, cls_well, cls_lst, cls_tup, cls_dic, cls_ins, clsAll_nil, clsAll_some, clsAll_none, Hz.putAt, putc_lst, putc_tup, putc_ins, child_lst, child_tup, child_ins, get_nil, get_cons, put_nil, put_cons, putFT, mask, List.getElem?_cons_zero, List.getElem?_cons_succ, List.set_cons_zero, List.set_cons_succ, Option.join_some, Option.map_some, Option.map_none, Option.bind_some, Option.bind_none, ite_true, ite_false, if_true, if_false, eq_self, Int.reduceToNat, Int.toNat_zero, Int.toNat_one, Int.reduceToNat, List.replicate_zero, List.replicate_succ, List.length_cons, List.length_nil, List.map_cons, List.map_nil, List.cons_append, List.nil_append, Nat.reduceSub, Nat.reduceAdd, Nat.zero_add, fp_Regions_0_n, fp_Regions_1_end, fp_Regions_2_ends, fp_Regions_3_n, fp_Regions_3_end, fp_Regions_3_ends, fp_Regions_3_UinitU, fp_Regions_3_take, fp_Regions_3_mark, fp_Regions_3_back, fp_Regions_3_top, fp_Regions_3_marks, fp_Regions_3_twin, fp_Regions_3_UeqU, fp_Regions_3_UneU] | exact rfl)
              refine .inr ⟨p, e, es, _, rfl, .inl rfl, fun _ => ?_⟩
              repeat (first | refine And.intro rfl ?_ | apply Exists.intro | refine And.intro (Nat.le_of_ble_eq_true rfl) ?_ | refine And.intro (by decide) ?_ | refine And.intro ⟨_, _, rfl, rfl⟩ ?_ | refine And.intro ⟨_, _, rfl, rfl, rfl⟩ ?_ | refine And.intro (Hz.copy_map _ _) ?_ | refine And.intro (Hz.all_cut (Hz.copy_map _ _)) ?_ | refine And.intro (Hz.pys_map _ _) ?_ | refine And.intro (Hz.real_map _ _) ?_ | refine And.intro Hz.insNo ?_ | refine And.intro (Hz.insOnly tx.i_Regions) ?_ | refine And.intro (Hz.shaped_pl (by ((repeat' (first | exact Hz.pl_int | exact Hz.pl_bool | exact Hz.pl_none | refine Hz.pl_list ?_ | refine Hz.pl_tuple ?_ | exact Hz.plA_nil | refine Hz.plA_cons ?_ ?_ | refine Hz.plA_map (fun _ => ?_) _)); done))) ?_ | refine And.intro (.own _) ?_ | refine And.intro Hz.kit_self ?_ | refine And.intro Hz.notFirst_self ?_ | refine And.intro (show CMul _ _ from .inl ⟨by decide, by decide⟩) ?_ | refine And.intro (show CMul _ _ from .inr ⟨by decide, by decide⟩) ?_ | refine And.intro (show CMod _ _ from (by decide : (0 : Int) < _)) ?_ | refine And.intro (show CDiv _ _ from ⟨by decide, by decide⟩) ?_ | refine And.intro (show CPow _ _ from ⟨by decide, by decide, by decide⟩) ?_ | refine Or.inl (Exists.intro _ (And.intro rfl ?_)) | refine Or.inr (Exists.intro _ (And.intro rfl ?_)) | refine (fun (_ : V) => ?_) | refine (fun (_ : True) => ?_) | simp only [give_dat, give_cst, give_well, pys_nil, pys_consE, py_dat, py_lstE, py_tupE, pys_mapI, pys_mapD, dropsT_nil, dropsT_cons, startT, drop_bor, drop_lz, drop_dat, drop_cst, drop_well, drop_lst, drop_tup, drop_dic, drop_ins, opn_bor, opn_lz, opn_dat, opn_cst, opn_well, opn_lst, opn_tup, opn_dic, opn_ins, cls_bor, cls_lz, cls_dat, cls_cst, cls_well, cls_lst, cls_tup, cls_dic, cls_ins, clsAll_nil, clsAll_some, clsAll_none, Hz.putAt, putc_lst, putc_tup, putc_ins, child_lst, child_tup, child_ins, get_nil, get_cons, put_nil, put_cons, putFT, mask, List.getElem?_cons_zero, List.getElem?_cons_succ, List.set_cons_zero, List.set_cons_succ, Option.join_some, Option.map_some, Option.map_none, Option.bind_some, Option.bind_none, ite_true, ite_false, if_true, if_false, eq_self, Int.reduceToNat, Int.toNat_zero, Int.toNat_one, Int.reduceToNat, List.replicate_zero, List.replicate_succ, List.length_cons, List.length_nil, List.map_cons, List.map_nil, List.cons_append, List.nil_append, Nat.reduceSub, Nat.reduceAdd, Nat.zero_add, fp_Regions_0_n, fp_Regions_1_end, fp_Regions_2_ends, fp_Regions_3_n, fp_Regions_3_end, fp_Regions_3_ends, fp_Regions_3_UinitU, fp_Regions_3_take, fp_Regions_3_mark, fp_Regions_3_back, fp_Regions_3_top, fp_Regions_3_marks, fp_Regions_3_twin, fp_Regions_3_UeqU, fp_Regions_3_UneU] | exact rfl)
              exact ⟨last _⟩
        repeat (first | refine And.intro rfl ?_ | apply Exists.intro | refine And.intro (Nat.le_of_ble_eq_true rfl) ?_ | refine And.intro (by decide) ?_ | refine And.intro ⟨_, _, rfl, rfl⟩ ?_ | refine And.intro ⟨_, _, rfl, rfl, rfl⟩ ?_ | refine And.intro (Hz.copy_map _ _) ?_ | refine And.intro (Hz.all_cut (Hz.copy_map _ _)) ?_ | refine And.intro (Hz.pys_map _ _) ?_ | refine And.intro (Hz.real_map _ _) ?_ | refine And.intro Hz.insNo ?_ | refine And.intro (Hz.insOnly tx.i_Regions) ?_ | refine And.intro (Hz.shaped_pl (by ((repeat' (first | exact Hz.pl_int | exact Hz.pl_bool | exact Hz.pl_none | refine Hz.pl_list ?_ | refine Hz.pl_tuple ?_ | exact Hz.plA_nil | refine Hz.plA_cons ?_ ?_ | refine Hz.plA_map (fun _ => ?_) _)); done))) ?_ | refine And.intro (.own _) ?_ | refine And.intro Hz.kit_self ?_ | refine And.intro Hz.notFirst_self ?_ | refine And.intro (show CMul _ _ from .inl ⟨by decide, by decide⟩) ?_ | refine And.intro (show CMul _ _ from .inr ⟨by decide, by decide⟩) ?_ | refine And.intro (show CMod _ _ from (by decide : (0 : Int) < _)) ?_ | refine And.intro (show CDiv _ _ from ⟨by decide, by decide⟩) ?_ | refine And.intro (show CPow _ _ from ⟨by decide, by decide, by decide⟩) ?_ | refine Or.inl (Exists.intro _ (And.intro rfl ?_)) | refine Or.inr (Exists.intro _ (And.intro rfl ?_)) | refine (fun (_ : V) => ?_) | refine (fun (_ : True) => ?_) | simp only [give_dat, give_cst, give_well, pys_nil, pys_consE, py_dat, py_lstE, py_tupE, pys_mapI, pys_mapD, dropsT_nil, dropsT_cons, startT, drop_bor, drop_lz, drop_dat, drop_cst, drop_well, drop_lst, drop_tup, drop_dic, drop_ins, opn_bor, opn_lz, opn_dat, opn_cst, opn_well, opn_lst, opn_tup, opn_dic, opn_ins, cls_bor, cls_lz, cls_dat, cls_cst, cls_well, cls_lst, cls_tup, cls_dic, cls_ins, clsAll_nil, clsAll_some, clsAll_none, Hz.putAt, putc_lst, putc_tup, putc_ins, child_lst, child_tup, child_ins, get_nil, get_cons, put_nil, put_cons, putFT, mask, List.getElem?_cons_zero, List.getElem?_cons_succ, List.set_cons_zero, List.set_cons_succ, Option.join_some, Option.map_some, Option.map_none, Option.bind_some, Option.bind_none, ite_true, ite_false, if_true, if_false, eq_self, Int.reduceToNat, Int.toNat_zero, Int.toNat_one, Int.reduceToNat, List.replicate_zero, List.replicate_succ, List.length_cons, List.length_nil, List.map_cons, List.map_nil, List.cons_append, List.nil_append, Nat.reduceSub, Nat.reduceAdd, Nat.zero_add, fp_Regions_0_n, fp_Regions_1_end, fp_Regions_2_ends, fp_Regions_3_n, fp_Regions_3_end, fp_Regions_3_ends, fp_Regions_3_UinitU, fp_Regions_3_take, fp_Regions_3_mark, fp_Regions_3_back, fp_Regions_3_top, fp_Regions_3_marks, fp_Regions_3_twin, fp_Regions_3_UeqU, fp_Regions_3_UneU] | exact rfl)
        refine fun w w0 w1 _ => ?_
        obtain rfl | rfl : w = 0 ∨ w = 1 := by omega
        · repeat (first | refine And.intro rfl ?_ | apply Exists.intro | refine And.intro (Nat.le_of_ble_eq_true rfl) ?_ | refine And.intro (by decide) ?_ | refine And.intro ⟨_, _, rfl, rfl⟩ ?_ | refine And.intro ⟨_, _, rfl, rfl, rfl⟩ ?_ | refine And.intro (Hz.copy_map _ _) ?_ | refine And.intro (Hz.all_cut (Hz.copy_map _ _)) ?_ | refine And.intro (Hz.pys_map _ _) ?_ | refine And.intro (Hz.real_map _ _) ?_ | refine And.intro Hz.insNo ?_ | refine And.intro (Hz.insOnly tx.i_Regions) ?_ | refine And.intro (Hz.shaped_pl (by ((repeat' (first | exact Hz.pl_int | exact Hz.pl_bool | exact Hz.pl_none | refine Hz.pl_list ?_ | refine Hz.pl_tuple ?_ | exact Hz.plA_nil | refine Hz.plA_cons ?_ ?_ | refine Hz.plA_map (fun _ => ?_) _)); done))) ?_ | refine And.intro (.own _) ?_ | refine And.intro Hz.kit_self ?_ | refine And.intro Hz.notFirst_self ?_ | refine And.intro (show CMul _ _ from .inl ⟨by decide, by decide⟩) ?_ | refine And.intro (show CMul _ _ from .inr ⟨by decide, by decide⟩) ?_ | refine And.intro (show CMod _ _ from (by decide : (0 : Int) < _)) ?_ | refine And.intro (show CDiv _ _ from ⟨by decide, by decide⟩) ?_ | refine And.intro (show CPow _ _ from ⟨by decide, by decide, by decide⟩) ?_ | refine Or.inl (Exists.intro _ (And.intro rfl ?_)) | refine Or.inr (Exists.intro _ (And.intro rfl ?_)) | refine (fun (_ : V) => ?_) | refine (fun (_ : True) => ?_) | simp only [give_dat, give_cst, give_well, pys_nil, pys_consE, py_dat, py_lstE, py_tupE, pys_mapI, pys_mapD, dropsT_nil, dropsT_cons, startT, drop_bor, drop_lz, drop_dat, drop_cst, drop_well, drop_lst, drop_tup, drop_dic, drop_ins, opn_bor, opn_lz, opn_dat, opn_cst, opn_well, opn_lst, opn_tup, opn_dic, opn_ins, cls_bor, cls_lz, cls_dat, cls_cst, cls_well, cls_lst, cls_tup, cls_dic, cls_ins, clsAll_nil, clsAll_some, clsAll_none, Hz.putAt, putc_lst, putc_tup, putc_ins, child_lst, child_tup, child_ins, get_nil, get_cons, put_nil, put_cons, putFT, mask, List.getElem?_cons_zero, List.getElem?_cons_succ, List.set_cons_zero, List.set_cons_succ, Option.join_some, Option.map_some, Option.map_none, Option.bind_some, Option.bind_none, ite_true, ite_false, if_true, if_false, eq_self, Int.reduceToNat, Int.toNat_zero, Int.toNat_one, Int.reduceToNat, List.replicate_zero, List.replicate_succ, List.length_cons, List.length_nil, List.map_cons, List.map_nil, List.cons_append, List.nil_append, Nat.reduceSub, Nat.reduceAdd, Nat.zero_add, fp_Regions_0_n, fp_Regions_1_end, fp_Regions_2_ends, fp_Regions_3_n, fp_Regions_3_end, fp_Regions_3_ends, fp_Regions_3_UinitU, fp_Regions_3_take, fp_Regions_3_mark, fp_Regions_3_back, fp_Regions_3_top, fp_Regions_3_marks, fp_Regions_3_twin, fp_Regions_3_UeqU, fp_Regions_3_UneU] | exact rfl)
          refine ⟨b, by omega, o1, fun e' es' o1' _ => ?_⟩
          repeat (first | refine And.intro rfl ?_ | apply Exists.intro | refine And.intro (Nat.le_of_ble_eq_true rfl) ?_ | refine And.intro (by decide) ?_ | refine And.intro ⟨_, _, rfl, rfl⟩ ?_ | refine And.intro ⟨_, _, rfl, rfl, rfl⟩ ?_ | refine And.intro (Hz.copy_map _ _) ?_ | refine And.intro (Hz.all_cut (Hz.copy_map _ _)) ?_ | refine And.intro (Hz.pys_map _ _) ?_ | refine And.intro (Hz.real_map _ _) ?_ | refine And.intro Hz.insNo ?_ | refine And.intro (Hz.insOnly tx.i_Regions) ?_ | refine And.intro (Hz.shaped_pl (by ((repeat' (first | exact Hz.pl_int | exact Hz.pl_bool | exact Hz.pl_none | refine Hz.pl_list ?_ | refine Hz.pl_tuple ?_ | exact Hz.plA_nil | refine Hz.plA_cons ?_ ?_ | refine Hz.plA_map (fun _ => ?_) _)); done))) ?_ | refine And.intro (.own _) ?_ | refine And.intro Hz.kit_self ?_ | refine And.intro Hz.notFirst_self ?_ | refine And.intro (show CMul _ _ from .inl ⟨by decide, by decide⟩) ?_ | refine And.intro (show CMul _ _ from .inr ⟨by decide, by decide⟩) ?_ | refine And.intro (show CMod _ _ from (by decide : (0 : Int) < _)) ?_ | refine And.intro (show CDiv _ _ from ⟨by decide, by decide⟩) ?_ | refine And.intro (show CPow _ _ from ⟨by decide, by decide, by decide⟩) ?_ | refine Or.inl (Exists.intro _ (And.intro rfl ?_)) | refine Or.inr (Exists.intro _ (And.intro rfl ?_)) | refine (fun (_ : V) => ?_) | refine (fun (_ : True) => ?_) | simp only [give_dat, give_cst, give_well, pys_nil, pys_consE, py_dat, py_lstE, py_tupE, pys_mapI, pys_mapD, dropsT_nil, dropsT_cons, startT, drop_bor, drop_lz, drop_dat, drop_cst, drop_well, drop_lst, drop_tup, drop_dic, drop_ins, opn_bor, opn_lz, opn_dat, opn_cst, opn_well, opn_lst, opn_tup, opn_dic, opn_ins, cls_bor, cls_lz, cls_dat, cls_cst, cls_well, cls_lst, cls_tup, cls_dic, cls_ins, clsAll_nil, clsAll_some, clsAll_none, Hz.putAt, putc_lst, putc_tup, putc_ins, child_lst, child_tup, child_ins, get_nil, get_cons, put_nil, put_cons, putFT, mask, List.getElem?_cons_zero, List.getElem?_cons_succ, List.set_cons_zero, List.set_cons_succ, Option.join_some, Option.map_some, Option.map_none, Option.bind_some, Option.bind_none, ite_true, ite_false, if_true, if_false, eq_self, Int.reduceToNat, Int.toNat_zero, Int.toNat_one, Int.reduceToNat, List.replicate_zero, List.replicate_succ, List.length_cons, List.length_nil, List.map_cons, List.map_nil, List.cons_append, List.nil_append, Nat.reduceSub, Nat.reduceAdd, Nat.zero_add, fp_Regions_0_n, fp_Regions_1_end, fp_Regions_2_ends, fp_Regions_3_n, fp_Regions_3_end, fp_Regions_3_ends, fp_Regions_3_UinitU, fp_Regions_3_take, fp_Regions_3_mark, fp_Regions_3_back, fp_Regions_3_top, fp_Regions_3_marks, fp_Regions_3_twin, fp_Regions_3_UeqU, fp_Regions_3_UneU] | exact rfl)
          exact ⟨rest _ _ _ _ _ _ _ o1' o2.same⟩
        · repeat (first | refine And.intro rfl ?_ | apply Exists.intro | refine And.intro (Nat.le_of_ble_eq_true rfl) ?_ | refine And.intro (by decide) ?_ | refine And.intro ⟨_, _, rfl, rfl⟩ ?_ | refine And.intro ⟨_, _, rfl, rfl, rfl⟩ ?_ | refine And.intro (Hz.copy_map _ _) ?_ | refine And.intro (Hz.all_cut (Hz.copy_map _ _)) ?_ | refine And.intro (Hz.pys_map _ _) ?_ | refine And.intro (Hz.real_map _ _) ?_ | refine And.intro Hz.insNo ?_ | refine And.intro (Hz.insOnly tx.i_Regions) ?_ | refine And.intro (Hz.shaped_pl (by ((repeat' (first | exact Hz.pl_int | exact Hz.pl_bool | exact Hz.pl_none | refine Hz.pl_list ?_ | refine Hz.pl_tuple ?_ | exact Hz.plA_nil | refine Hz.plA_cons ?_ ?_ | refine Hz.plA_map (fun _ => ?_) _)); done))) ?_ | refine And.intro (.own _) ?_ | refine And.intro Hz.kit_self ?_ | refine And.intro Hz.notFirst_self ?_ | refine And.intro (show CMul _ _ from .inl ⟨by decide, by decide⟩) ?_ | refine And.intro (show CMul _ _ from .inr ⟨by decide, by decide⟩) ?_ | refine And.intro (show CMod _ _ from (by decide : (0 : Int) < _)) ?_ | refine And.intro (show CDiv _ _ from ⟨by decide, by decide⟩) ?_ | refine And.intro (show CPow _ _ from ⟨by decide, by decide, by decide⟩) ?_ | refine Or.inl (Exists.intro _ (And.intro rfl ?_)) | refine Or.inr (Exists.intro _ (And.intro rfl ?_)) | refine (fun (_ : V) => ?_) | refine (fun (_ : True) => ?_) | simp only [give_dat, give_cst, give_well, pys_nil, pys_consE, py_dat, py_lstE, py_tupE, pys_mapI, pys_mapD, dropsT_nil, dropsT_cons, startT, drop_bor, drop_lz, drop_dat, drop_cst, drop_well, drop_lst, drop_tup, drop_dic, drop_ins, opn_bor, opn_lz, opn_dat, opn_cst, opn_well, opn_lst, opn_tup, opn_dic, opn_ins, cls_bor, cls_lz, cls_dat, cls_cst, cls_well, cls_lst, cls_tup, cls_dic, cls_ins, clsAll_nil, clsAll_some, clsAll_none, Hz.putAt, putc_lst, putc_tup, putc_ins, child_lst, child_tup, child_ins, get_nil, get_cons, put_nil, put_cons, putFT, mask, List.getElem?_cons_zero, List.getElem?_cons_succ, List.set_cons_zero, List.set_cons_succ, Option.join_some, Option.map_some, Option.map_none, Option.bind_some, Option.bind_none, ite_true, ite_false, if_true, if_false, eq_self, Int.reduceToNat, Int.toNat_zero, Int.toNat_one, Int.reduceToNat, List.replicate_zero, List.replicate_succ, List.length_cons, List.length_nil, List.map_cons, List.map_nil, List.cons_append, List.nil_append, Nat.reduceSub, Nat.reduceAdd, Nat.zero_add, fp_Regions_0_n, fp_Regions_1_end, fp_Regions_2_ends, fp_Regions_3_n, fp_Regions_3_end, fp_Regions_3_ends, fp_Regions_3_UinitU, fp_Regions_3_take, fp_Regions_3_mark, fp_Regions_3_back, fp_Regions_3_top, fp_Regions_3_marks, fp_Regions_3_twin, fp_Regions_3_UeqU, fp_Regions_3_UneU] | exact rfl)
          refine ⟨b, by omega, o2, fun e' es' o2' _ => ?_⟩
          repeat (first | refine And.intro rfl ?_ | apply Exists.intro | refine And.intro (Nat.le_of_ble_eq_true rfl) ?_ | refine And.intro (by decide) ?_ | refine And.intro ⟨_, _, rfl, rfl⟩ ?_ | refine And.intro ⟨_, _, rfl, rfl, rfl⟩ ?_ | refine And.intro (Hz.copy_map _ _) ?_ | refine And.intro (Hz.all_cut (Hz.copy_map _ _)) ?_ | refine And.intro (Hz.pys_map _ _) ?_ | refine And.intro (Hz.real_map _ _) ?_ | refine And.intro Hz.insNo ?_ | refine And.intro (Hz.insOnly tx.i_Regions) ?_ | refine And.intro (Hz.shaped_pl (by ((repeat' (first | exact Hz.pl_int | exact Hz.pl_bool | exact Hz.pl_none | refine Hz.pl_list ?_ | refine Hz.pl_tuple ?_ | exact Hz.plA_nil | refine Hz.plA_cons ?_ ?_ | refine Hz.plA_map (fun _ => ?_) _)); done))) ?_ | refine And.intro (.own _) ?_ | refine And.intro Hz.kit_self ?_ | refine And.intro Hz.notFirst_self ?_ | refine And.intro (show CMul _ _ from .inl ⟨by decide, by decide⟩) ?_ | refine And.intro (show CMul _ _ from .inr ⟨by decide, by decide⟩) ?_ | refine And.intro (show CMod _ _ from (by decide : (0 : Int) < _)) ?_ | refine And.intro (show CDiv _ _ from ⟨by decide, by decide⟩) ?_ | refine And.intro (show CPow _ _ from ⟨by decide, by decide, by decide⟩) ?_ | refine Or.inl (Exists.intro _ (And.intro rfl ?_)) | refine Or.inr (Exists.intro _ (And.intro rfl ?_)) | refine (fun (_ : V) => ?_) | refine (fun (_ : True) => ?_) | simp only [give_dat, give_cst, give_well, pys_nil, pys_consE, py_dat, py_lstE, py_tupE, pys_mapI, pys_mapD, dropsT_nil, dropsT_cons, startT, drop_bor, drop_lz, drop_dat, drop_cst, drop_well, drop_lst, drop_tup, drop_dic, drop_ins, opn_bor, opn_lz, opn_dat, opn_cst, opn_well, opn_lst, opn_tup, opn_dic, opn_ins, cls_bor, cls_lz, cls_dat, cls_cst, cls_well, cls_lst, cls_tup, cls_dic, cls_ins, clsAll_nil, clsAll_some, clsAll_none, Hz.putAt, putc_lst, putc_tup, putc_ins, child_lst, child_tup, child_ins, get_nil, get_cons, put_nil, put_cons, putFT, mask, List.getElem?_cons_zero, List.getElem?_cons_succ, List.set_cons_zero, List.set_cons_succ, Option.join_some, Option.map_some, Option.map_none, Option.bind_some, Option.bind_none, ite_true, ite_false, if_true, if_false, eq_self, Int.reduceToNat, Int.toNat_zero, Int.toNat_one, Int.reduceToNat, List.replicate_zero, List.replicate_succ, List.length_cons, List.length_nil, List.map_cons, List.map_nil, List.cons_append, List.nil_append, Nat.reduceSub, Nat.reduceAdd, Nat.zero_add, fp_Regions_0_n, fp_Regions_1_end, fp_Regions_2_ends, fp_Regions_3_n, fp_Regions_3_end, fp_Regions_3_ends, fp_Regions_3_UinitU, fp_Regions_3_take, fp_Regions_3_mark, fp_Regions_3_back, fp_Regions_3_top, fp_Regions_3_marks, fp_Regions_3_twin, fp_Regions_3_UeqU, fp_Regions_3_UneU] | exact rfl)
          exact ⟨rest _ _ _ _ _ _ _ o1.same o2'⟩
      · rintro ρ ⟨p, e, q, f, es, fs, x7, x8, x9, x10, x11, rfl, o1, o2⟩
        repeat (first | refine And.intro rfl ?_ | apply Exists.intro | refine And.intro (Nat.le_of_ble_eq_true rfl) ?_ | refine And.intro (by decide) ?_ | refine And.intro ⟨_, _, rfl, rfl⟩ ?_ | refine And.intro ⟨_, _, rfl, rfl, rfl⟩ ?_ | refine And.intro (Hz.copy_map _ _) ?_ | refine And.intro (Hz.all_cut (Hz.copy_map _ _)) ?_ | refine And.intro (Hz.pys_map _ _) ?_ | refine And.intro (Hz.real_map _ _) ?_ | refine And.intro Hz.insNo ?_ | refine And.intro (Hz.insOnly tx.i_Regions) ?_ | refine And.intro (Hz.shaped_pl (by ((repeat' (first | exact Hz.pl_int | exact Hz.pl_bool | exact Hz.pl_none | refine Hz.pl_list ?_ | refine Hz.pl_tuple ?_ | exact Hz.plA_nil | refine Hz.plA_cons ?_ ?_ | refine Hz.plA_map (fun _ => ?_) _)); done))) ?_ | refine And.intro (.own _) ?_ | refine And.intro Hz.kit_self ?_ | refine And.intro Hz.notFirst_self ?_ | refine And.intro (show CMul _ _ from .inl ⟨by decide, by decide⟩) ?_ | refine And.intro (show CMul _ _ from .inr ⟨by decide, by decide⟩) ?_ | refine And.intro (show CMod _ _ from (by decide : (0 : Int) < _)) ?_ | refine And.intro (show CDiv _ _ from ⟨by decide, by decide⟩) ?_ | refine And.intro (show CPow _ _ from ⟨by decide, by decide, by decide⟩) ?_ | refine Or.inl (Exists.intro _ (And.intro rfl ?_)) | refine Or.inr (Exists.intro _ (And.intro rfl ?_)) | refine (fun (_ : V) => ?_) | refine (fun (_ : True) => ?_) | simp only [give_dat, give_cst, give_well, pys_nil, pys_consE, py_dat, py_lstE, py_tupE, pys_mapI, pys_mapD, dropsT_nil, dropsT_cons, startT, drop_bor, drop_lz, drop_dat, drop_cst, drop_well, drop_lst, drop_tup, drop_dic, drop_ins, opn_bor, opn_lz, opn_dat, opn_cst, opn_well, opn_lst, opn_tup, opn_dic, opn_ins, cls_bor, cls_lz, cls_dat, cls_cst, cls_well, cls_lst, cls_tup, cls_dic, cls_ins, clsAll_nil, clsAll_some, clsAll_none, Hz.putAt, putc_lst, putc_tup, putc_ins, child_lst, child_tup, child_ins, get_nil, get_cons, put_nil, put_cons, putFT, mask, List.getElem?_cons_zero, List.getElem?_cons_succ, List.set_cons_zero, List.set_cons_succ, Option.join_some, Option.map_some, Option.map_none, Option.bind_some, Option.bind_none, ite_true, ite_false, if_true, if_false, eq_self, Int.reduceToNat, Int.toNat_zero, Int.toNat_one, Int.reduceToNat, List.replicate_zero, List.replicate_succ, List.length_cons, List.length_nil, List.map_cons, List.map_nil, List.cons_append, List.nil_append, Nat.reduceSub, Nat.reduceAdd, Nat.zero_add, fp_Regions_0_n, fp_Regions_1_end, fp_Regions_2_ends, fp_Regions_3_n, fp_Regions_3_end, fp_Regions_3_ends, fp_Regions_3_UinitU, fp_Regions_3_take, fp_Regions_3_mark, fp_Regions_3_back, fp_Regions_3_top, fp_Regions_3_marks, fp_Regions_3_twin, fp_Regions_3_UeqU, fp_Regions_3_UneU] | exact rfl)
    repeat (first | refine And.intro rfl ?_ | apply Exists.intro | refine And.intro (Nat.le_of_ble_eq_true rfl) ?_ | refine And.intro (by decide) ?_ | refine And.intro ⟨_, _, rfl, rfl⟩ ?_ | refine And.intro ⟨_, _, rfl, rfl, rfl⟩ ?_ | refine And.intro (Hz.copy_map _ _) ?_ | refine And.intro (Hz.all_cut (Hz.copy_map _ _)) ?_ | refine And.intro (Hz.pys_map _ _) ?_ | refine And.intro (Hz.real_map _ _) ?_ | refine And.intro Hz.insNo ?_ | refine And.intro (Hz.insOnly tx.i_Regions) ?_ | refine And.intro (Hz.shaped_pl (by ((repeat' (first | exact Hz.pl_int | exact Hz.pl_bool | exact Hz.pl_none | refine Hz.pl_list ?_ | refine Hz.pl_tuple ?_ | exact Hz.plA_nil | refine Hz.plA_cons ?_ ?_ | refine Hz.plA_map (fun _ => ?_) _)); done))) ?_ | refine And.intro (.own _) ?_ | refine And.intro Hz.kit_self ?_ | refine And.intro Hz.notFirst_self ?_ | refine And.intro (show CMul _ _ from .inl ⟨by decide, by decide⟩) ?_ | refine And.intro (show CMul _ _ from .inr ⟨by decide, by decide⟩) ?_ | refine And.intro (show CMod _ _ from (by decide : (0 : Int) < _)) ?_ | refine And.intro (show CDiv _ _ from ⟨by decide, by decide⟩) ?_ | refine And.intro (show CPow _ _ from ⟨by decide, by decide, by decide⟩) ?_ | refine Or.inl (Exists.intro _ (And.intro rfl ?_)) | refine Or.inr (Exists.intro _ (And.intro rfl ?_)) | refine (fun (_ : V) => ?_) | refine (fun (_ : True) => ?_) | simp only [give_dat, give_cst, give_well, pys_nil, pys_consE, py_dat, py_lstE, py_tupE, pys_mapI, pys_mapD, dropsT_nil, dropsT_cons, startT, drop_bor, drop_lz, drop_dat, drop_cst, drop_well, drop_lst, drop_tup, drop_dic, drop_ins, opn_bor, opn_lz, opn_dat, opn_cst, opn_well, opn_lst, opn_tup, opn_dic, opn_ins, cls_bor, cls_lz, cls_dat, cls_cst, cls_well, cls_lst, cls_tup, cls_dic, cls_ins, clsAll_nil, clsAll_some, clsAll_none, Hz.putAt, putc_lst, putc_tup, putc_ins, child_lst, child_tup, child_ins, get_nil, get_cons, put_nil, put_cons, putFT, mask, List.getElem?_cons_zero, List.getElem?_cons_succ, List.set_cons_zero, List.set_cons_succ, Option.join_some, Option.map_some, Option.map_none, Option.bind_some, Option.bind_none, ite_true, ite_false, if_true, if_false, eq_self, Int.reduceToNat, Int.toNat_zero, Int.toNat_one, Int.reduceToNat, List.replicate_zero, List.replicate_succ, List.length_cons, List.length_nil, List.map_cons, List.map_nil, List.cons_append, List.nil_append, Nat.reduceSub, Nat.reduceAdd, Nat.zero_add, fp_Regions_0_n, fp_Regions_1_end, fp_Regions_2_ends, fp_Regions_3_n, fp_Regions_3_end, fp_Regions_3_ends, fp_Regions_3_UinitU, fp_Regions_3_take, fp_Regions_3_mark, fp_Regions_3_back, fp_Regions_3_top, fp_Regions_3_marks, fp_Regions_3_twin, fp_Regions_3_UeqU, fp_Regions_3_UneU] | exact rfl)
    refine fun j j0 j1 _ => ?_
    repeat (first | refine And.intro rfl ?_ | apply Exists.intro | refine And.intro (Nat.le_of_ble_eq_true rfl) ?_ | refine And.intro (by decide) ?_ | refine And.intro ⟨_, _, rfl, rfl⟩ ?_ | refine And.intro ⟨_, _, rfl, rfl, rfl⟩ ?_ | refine And.intro (Hz.copy_map _ _) ?_ | refine And.intro (Hz.all_cut (Hz.copy_map _ _)) ?_ | refine And.intro (Hz.pys_map _ _) ?_ | refine And.intro (Hz.real_map _ _) ?_ | refine And.intro Hz.insNo ?_ | refine And.intro (Hz.insOnly tx.i_Regions) ?_ | refine And.intro (Hz.shaped_pl (by ((repeat' (first | exact Hz.pl_int | exact Hz.pl_bool | exact Hz.pl_none | refine Hz.pl_list ?_ | refine Hz.pl_tuple ?_ | exact Hz.plA_nil | refine Hz.plA_cons ?_ ?_ | refine Hz.plA_map (fun _ => ?_) _)); done))) ?_ | refine And.intro (.own _) ?_ | refine And.intro Hz.kit_self ?_ | refine And.intro Hz.notFirst_self ?_ | refine And.intro (show CMul _ _ from .inl ⟨by decide, by decide⟩) ?_ | refine And.intro (show CMul _ _ from .inr ⟨by decide, by decide⟩) ?_ | refine And.intro (show CMod _ _ from (by decide : (0 : Int) < _)) ?_ | refine And.intro (show CDiv _ _ from ⟨by decide, by decide⟩) ?_ | refine And.intro (show CPow _ _ from ⟨by decide, by decide, by decide⟩) ?_ | refine Or.inl (Exists.intro _ (And.intro rfl ?_)) | refine Or.inr (Exists.intro _ (And.intro rfl ?_)) | refine (fun (_ : V) => ?_) | refine (fun (_ : True) => ?_) | simp only [give_dat, give_cst, give_well, pys_nil, pys_consE, py_dat, py_lstE, py_tupE, pys_mapI, pys_mapD, dropsT_nil, dropsT_cons, startT, drop_bor, drop_lz, drop_dat, drop_cst, drop_well, drop_lst, drop_tup, drop_dic, drop_ins, opn_bor, opn_lz, opn_dat, opn_cst, opn_well, opn_lst, opn_tup, opn_dic, opn_ins, cls_bor, cls_lz, cls_dat, cls_cst, cls_well, cls_lst, cls_tup, cls_dic, cls_ins, clsAll_nil, clsAll_some, clsAll_none, Hz.putAt, putc_lst, putc_tup, putc_ins, child_lst, child_tup, child_ins, get_nil, get_cons, put_nil, put_cons, putFT, mask, List.getElem?_cons_zero, List.getElem?_cons_succ, List.set_cons_zero, List.set_cons_succ, Option.join_some, Option.map_some, Option.map_none, Option.bind_some, Option.bind_none, ite_true, ite_false, if_true, if_false, eq_self, Int.reduceToNat, Int.toNat_zero, Int.toNat_one, Int.reduceToNat, List.replicate_zero, List.replicate_succ, List.length_cons, List.length_nil, List.map_cons, List.map_nil, List.cons_append, List.nil_append, Nat.reduceSub, Nat.reduceAdd, Nat.zero_add, fp_Regions_0_n, fp_Regions_1_end, fp_Regions_2_ends, fp_Regions_3_n, fp_Regions_3_end, fp_Regions_3_ends, fp_Regions_3_UinitU, fp_Regions_3_take, fp_Regions_3_mark, fp_Regions_3_back, fp_Regions_3_top, fp_Regions_3_marks, fp_Regions_3_twin, fp_Regions_3_UeqU, fp_Regions_3_UneU] | exact rfl)
    refine iteD (fun c => ?_) (fun c => ?_)
    · repeat (first | refine And.intro rfl ?_ | apply Exists.intro | refine And.intro (Nat.le_of_ble_eq_true rfl) ?_ | refine And.intro (by decide) ?_ | refine And.intro ⟨_, _, rfl, rfl⟩ ?_ | refine And.intro ⟨_, _, rfl, rfl, rfl⟩ ?_ | refine And.intro (Hz.copy_map _ _) ?_ | refine And.intro (Hz.all_cut (Hz.copy_map _ _)) ?_ | refine And.intro (Hz.pys_map _ _) ?_ | refine And.intro (Hz.real_map _ _) ?_ | refine And.intro Hz.insNo ?_ | refine And.intro (Hz.insOnly tx.i_Regions) ?_ | refine And.intro (Hz.shaped_pl (by ((repeat' (first | exact Hz.pl_int | exact Hz.pl_bool | exact Hz.pl_none | refine Hz.pl_list ?_ | refine Hz.pl_tuple ?_ | exact Hz.plA_nil | refine Hz.plA_cons ?_ ?_ | refine Hz.plA_map (fun _ => ?_) _)); done))) ?_ | refine And.intro (.own _) ?_ | refine And.intro Hz.kit_self ?_ | refine And.intro Hz.notFirst_self ?_ | refine And.intro (show CMul _ _ from .inl ⟨by decide, by decide⟩) ?_ | refine And.intro (show CMul _ _ from .inr ⟨by decide, by decide⟩) ?_ | refine And.intro (show CMod _ _ from (by decide : (0 : Int) < _)) ?_ | refine And.intro (show CDiv _ _ from ⟨by decide, by decide⟩) ?_ | refine And.intro (show CPow _ _ from ⟨by decide, by decide, by decide⟩) ?_ | refine Or.inl (Exists.intro _ (And.intro rfl ?_)) | refine Or.inr (Exists.intro _ (And.intro rfl ?_)) | refine (fun (_ : V) => ?_) | refine (fun (_ : True) => ?_) | simp only [give_dat, give_cst, give_well, pys_nil, pys_consE, py_dat, py_lstE, py_tupE, pys_mapI, pys_mapD, dropsT_nil, dropsT_cons, startT, drop_bor, drop_lz, drop_dat, drop_cst, drop_well, drop_lst, drop_tup, drop_dic, drop_ins, opn_bor, opn_lz, opn_dat, opn_cst, opn_well, opn_lst, opn_tup, opn_dic, opn_ins, cls_bor, cls_lz, cls_dat, cls_cst, cls_well, cls_lst, cls_tup, cls_dic, cls_ins, clsAll_nil, clsAll_some, clsAll_none, Hz.putAt, putc_lst, putc_tup, putc_ins, child_lst, child_tup, child_ins, get_nil, get_cons, put_nil, put_cons, putFT, mask, List.getElem?_cons_zero, List.getElem?_cons_succ, List.set_cons_zero, List.set_cons_succ, Option.join_some, Option.map_some, Option.map_none, Option.bind_some, Option.bind_none, ite_true, ite_false, if_true, if_false, eq_self, Int.reduceToNat, Int.toNat_zero, Int.toNat_one, Int.reduceToNat, List.replicate_zero, List.replicate_succ, List.length_cons, List.length_nil, List.map_cons, List.map_nil, List.cons_append, List.nil_append, Nat.reduceSub, Nat.reduceAdd, Nat.zero_add, fp_Regions_0_n, fp_Regions_1_end, fp_Regions_2_ends, fp_Regions_3_n, fp_Regions_3_end, fp_Regions_3_ends, fp_Regions_3_UinitU, fp_Regions_3_take, fp_Regions_3_mark, fp_Regions_3_back, fp_Regions_3_top, fp_Regions_3_marks, fp_Regions_3_twin, fp_Regions_3_UeqU, fp_Regions_3_UneU] | exact rfl)
      exact ⟨rest _ ok1⟩
    · repeat (first | refine And.intro rfl ?_ | apply Exists.intro | refine And.intro (Nat.le_of_ble_eq_true rfl) ?_ | refine And.intro (by decide) ?_ | refine And.intro ⟨_, _, rfl, rfl⟩ ?_ | refine And.intro ⟨_, _, rfl, rfl, rfl⟩ ?_ | refine And.intro (Hz.copy_map _ _) ?_ | refine And.intro (Hz.all_cut (Hz.copy_map _ _)) ?_ | refine And.intro (Hz.pys_map _ _) ?_ | refine And.intro (Hz.real_map _ _) ?_ | refine And.intro Hz.insNo ?_ | refine And.intro (Hz.insOnly tx.i_Regions) ?_ | refine And.intro (Hz.shaped_pl (by ((repeat' (first | exact Hz.pl_int | exact Hz.pl_bool | exact Hz.pl_none | refine Hz.pl_list ?_ | refine Hz.pl_tuple ?_ | exact Hz.plA_nil | refine Hz.plA_cons ?_ ?_ | refine Hz.plA_map (fun _ => ?_) _)); done))) ?_ | refine And.intro (.own _) ?_ | refine And.intro Hz.kit_self ?_ | refine And.intro Hz.notFirst_self ?_ | refine And.intro (show CMul _ _ from .inl ⟨by decide, by decide⟩) ?_ | refine And.intro (show CMul _ _ from .inr ⟨by decide, by decide⟩) ?_ | refine And.intro (show CMod _ _ from (by decide : (0 : Int) < _)) ?_ | refine And.intro (show CDiv _ _ from ⟨by decide, by decide⟩) ?_ | refine And.intro (show CPow _ _ from ⟨by decide, by decide, by decide⟩) ?_ | refine Or.inl (Exists.intro _ (And.intro rfl ?_)) | refine Or.inr (Exists.intro _ (And.intro rfl ?_)) | refine (fun (_ : V) => ?_) | refine (fun (_ : True) => ?_) | simp only [give_dat, give_cst, give_well, pys_nil, pys_consE, py_dat, py_lstE, py_tupE, pys_mapI, pys_mapD, dropsT_nil, dropsT_cons, startT, drop_bor, drop_lz, drop_dat, drop_cst, drop_well, drop_lst, drop_tup, drop_dic, drop_ins, opn_bor, opn_lz, opn_dat, opn_cst, opn_well, opn_lst, opn_tup, opn_dic, opn_ins, cls_bor, cls_lz, cls_dat, cls_cst, cls_well, cls_lst, cls_tup, cls_dic, cls_ins, clsAll_nil, clsAll_some, clsAll_none, Hz.putAt, putc_lst, putc_tup, putc_ins, child_lst, child_tup, child_ins, get_nil, get_cons, put_nil, put_cons, putFT, mask, List.getElem?_cons_zero, List.getElem?_cons_succ, List.set_cons_zero, List.set_cons_succ, Option.join_some, Option.map_some, Option.map_none, Option.bind_some, Option.bind_none, ite_true, ite_false, if_true, if_false, eq_self, Int.reduceToNat, Int.toNat_zero, Int.toNat_one, Int.reduceToNat, List.replicate_zero, List.replicate_succ, List.length_cons, List.length_nil, List.map_cons, List.map_nil, List.cons_append, List.nil_append, Nat.reduceSub, Nat.reduceAdd, Nat.zero_add, fp_Regions_0_n, fp_Regions_1_end, fp_Regions_2_ends, fp_Regions_3_n, fp_Regions_3_end, fp_Regions_3_ends, fp_Regions_3_UinitU, fp_Regions_3_take, fp_Regions_3_mark, fp_Regions_3_back, fp_Regions_3_top, fp_Regions_3_marks, fp_Regions_3_twin, fp_Regions_3_UeqU, fp_Regions_3_UneU] | exact rfl)
      refine fun j j0 j1 _ => ?_
      repeat (first | refine And.intro rfl ?_ | apply Exists.intro | refine And.intro (Nat.le_of_ble_eq_true rfl) ?_ | refine And.intro (by decide) ?_ | refine And.intro ⟨_, _, rfl, rfl⟩ ?_ | refine And.intro ⟨_, _, rfl, rfl, rfl⟩ ?_ | refine And.intro (Hz.copy_map _ _) ?_ | refine And.intro (Hz.all_cut (Hz.copy_map _ _)) ?_ | refine And.intro (Hz.pys_map _ _) ?_ | refine And.intro (Hz.real_map _ _) ?_ | refine And.intro Hz.insNo ?_ | refine And.intro (Hz.insOnly tx.i_Regions) ?_ | refine And.intro (Hz.shaped_pl (by ((repeat' (first | exact Hz.pl_int | exact Hz.pl_bool | exact Hz.pl_none | refine Hz.pl_list ?_ | refine Hz.pl_tuple ?_ | exact Hz.plA_nil | refine Hz.plA_cons ?_ ?_ | refine Hz.plA_map (fun _ => ?_) _)); done))) ?_ | refine And.intro (.own _) ?_ | refine And.intro Hz.kit_self ?_ | refine And.intro Hz.notFirst_self ?_ | refine And.intro (show CMul _ _ from .inl ⟨by decide, by decide⟩) ?_ | refine And.intro (show CMul _ _ from .inr ⟨by decide, by decide⟩) ?_ | refine And.intro (show CMod _ _ from (by decide : (0 : Int) < _)) ?_ | refine And.intro (show CDiv _ _ from ⟨by decide, by decide⟩) ?_ | refine And.intro (show CPow _ _ from ⟨by decide, by decide, by decide⟩) ?_ | refine Or.inl (Exists.intro _ (And.intro rfl ?_)) | refine Or.inr (Exists.intro _ (And.intro rfl ?_)) | refine (fun (_ : V) => ?_) | refine (fun (_ : True) => ?_) | simp only [give_dat, give_cst, give_well, pys_nil, pys_consE, py_dat, py_lstE, py_tupE, pys_mapI, pys_mapD, dropsT_nil, dropsT_cons, startT, drop_bor, drop_lz, drop_dat, drop_cst, drop_well, drop_lst, drop_tup, drop_dic, drop_ins, opn_bor, opn_lz, opn_dat, opn_cst, opn_well, opn_lst, opn_tup, opn_dic, opn_ins, cls_bor, cls_lz, cls_dat, cls_cst, cls_well, cls_lst, cls_tup, cls_dic, cls_ins, clsAll_nil, clsAll_some, clsAll_none, Hz.putAt, putc_lst, putc_tup, putc_ins, child_lst, child_tup, child_ins, get_nil, get_cons, put_nil, put_cons, putFT, mask, List.getElem?_cons_zero, List.getElem?_cons_succ, List.set_cons_zero, List.set_cons_succ, Option.join_some, Option.map_some, Option.map_none, Option.bind_some, Option.bind_none, ite_true, ite_false, if_true, if_false, eq_self, Int.reduceToNat, Int.toNat_zero, Int.toNat_one, Int.reduceToNat, List.replicate_zero, List.replicate_succ, List.length_cons, List.length_nil, List.map_cons, List.map_nil, List.cons_append, List.nil_append, Nat.reduceSub, Nat.reduceAdd, Nat.zero_add, fp_Regions_0_n, fp_Regions_1_end, fp_Regions_2_ends, fp_Regions_3_n, fp_Regions_3_end, fp_Regions_3_ends, fp_Regions_3_UinitU, fp_Regions_3_take, fp_Regions_3_mark, fp_Regions_3_back, fp_Regions_3_top, fp_Regions_3_marks, fp_Regions_3_twin, fp_Regions_3_UeqU, fp_Regions_3_UneU] | exact rfl)
      exact ⟨rest _ ⟨by omega, by omega, by omega, by omega, fun _ z => (nomatch z), Nat.le_refl _⟩⟩
  · rintro ρ ⟨x1, x2, x3, x4, x5, x6, x7, x8, x9, x10, x11, rfl⟩
    repeat (first | refine And.intro rfl ?_ | apply Exists.intro | refine And.intro (Nat.le_of_ble_eq_true rfl) ?_ | refine And.intro (by decide) ?_ | refine And.intro ⟨_, _, rfl, rfl⟩ ?_ | refine And.intro ⟨_, _, rfl, rfl, rfl⟩ ?_ | refine And.intro (Hz.copy_map _ _) ?_ | refine And.intro (Hz.all_cut (Hz.copy_map _ _)) ?_ | refine And.intro (Hz.pys_map _ _) ?_ | refine And.intro (Hz.real_map _ _) ?_ | refine And.intro Hz.insNo ?_ | refine And.intro (Hz.insOnly tx.i_Regions) ?_ | refine And.intro (Hz.shaped_pl (by ((repeat' (first | exact Hz.pl_int | exact Hz.pl_bool | exact Hz.pl_none | refine Hz.pl_list ?_ | refine Hz.pl_tuple ?_ | exact Hz.plA_nil | refine Hz.plA_cons ?_ ?_ | refine Hz.plA_map (fun _ => ?_) _)); done))) ?_ | refine And.intro (.own _) ?_ | refine And.intro Hz.kit_self ?_ | refine And.intro Hz.notFirst_self ?_ | refine And.intro (show CMul _ _ from .inl ⟨by decide, by decide⟩) ?_ | refine And.intro (show CMul _ _ from .inr ⟨by decide, by decide⟩) ?_ | refine And.intro (show CMod _ _ from (by decide : (0 : Int) < _)) ?_ | refine And.intro (show CDiv _ _ from ⟨by decide, by decide⟩) ?_ | refine And.intro (show CPow _ _ from ⟨by decide, by decide, by decide⟩) ?_ | refine Or.inl (Exists.intro _ (And.intro rfl ?_)) | refine Or.inr (Exists.intro _ (And.intro rfl ?_)) | refine (fun (_ : V) => ?_) | refine (fun (_ : True) => ?_) | simp only [give_dat, give_cst, give_well, pys_nil, pys_consE, py_dat, py_lstE, py_tupE, pys_mapI, pys_mapD, dropsT_nil, dropsT_cons, startT, drop_bor, drop_lz, drop_dat, drop_cst, drop_well, drop_lst, drop_tup, drop_dic, drop_ins, opn_bor, opn_lz, opn_dat, opn_cst, opn_well, opn_lst, opn_tup, opn_dic, opn_ins, cls_bor, cls_lz, cls_dat, cls_cst, cls_well, cls_lst, cls_tup, cls_dic, cls_ins, clsAll_nil, clsAll_some, clsAll_none, Hz.putAt, putc_lst, putc_tup, putc_ins, child_lst, child_tup, child_ins, get_nil, get_cons, put_nil, put_cons, putFT, mask, List.getElem?_cons_zero, List.getElem?_cons_succ, List.set_cons_zero, List.set_cons_succ, Option.join_some, Option.map_some, Option.map_none, Option.bind_some, Option.bind_none, ite_true, ite_false, if_true, if_false, eq_self, Int.reduceToNat, Int.toNat_zero, Int.toNat_one, Int.reduceToNat, List.replicate_zero, List.replicate_succ, List.length_cons, List.length_nil, List.map_cons, List.map_nil, List.cons_append, List.nil_append, Nat.reduceSub, Nat.reduceAdd, Nat.zero_add, fp_Regions_0_n, fp_Regions_1_end, fp_Regions_2_ends, fp_Regions_3_n, fp_Regions_3_end, fp_Regions_3_ends, fp_Regions_3_UinitU, fp_Regions_3_take, fp_Regions_3_mark, fp_Regions_3_back, fp_Regions_3_top, fp_Regions_3_marks, fp_Regions_3_twin, fp_Regions_3_UeqU, fp_Regions_3_UneU] | exact rfl)
    exact hp
theorem ok_law {P : Program} {w : World} {K : PySem.W.Frag} {mg : Str → Option Value} {base : Heap} {a : Ad} (T : Tx K mg a) : FnG P w K mg base CX0 5 a.f_law a.d_law ["script"] (spT K wellO (lawW 63)) :=
  fn_T [] T.F_law sc_law (fun ts post ep h => len_law h) (fun cdv A outer s H E hr hg => ⟨_, w_law K a,
  (pss_cons (ps_for PassesOwn.never rfl (pi_range1 (by rfl) (by exact T.z_range) (pa_cons (pe_callB (call_max2 rfl) (by rfl) (by exact T.z_max) bt_max (pa_cons pe_int (pa_cons (pe_callB (call_min2 rfl) (by rfl) (by exact T.z_min) bt_min (pa_cons pe_int (pa_cons (pe_callB call_len (by rfl) (by exact T.z_len) bt_len (pa_cons (pv 0) pa_nil)) pa_nil))) pa_nil))) pa_nil)) (pg_name (i := 1) sc_law.nd rfl (Or.inl rfl))
  (pss_cons (ps_set (i := 2) sc_law.nd rfl (Or.inl rfl) (pg_call (ok__law_well T) (by exact hr.mono (by decide)) (by exact hg) (by rfl) (by exact T.g__law_well) (by exact T.F__law_well.kp) T.b__law_well_2 passG (pa_cons (pv 0) (pa_cons (pv 1) pa_nil))))
  (pss_cons (ps_set (i := 3) sc_law.nd rfl (Or.inl rfl) (pe_op op_add pe_int (pg_call (ok__law_draw T) (by exact hr.mono (by decide)) (by exact hg) (by rfl) (by exact T.g__law_draw) (by exact T.F__law_draw.kp) T.b__law_draw_2 passG (pa_cons (pv 2) (pa_cons (pe_ix ix_seq (pe_lst (pa_cons pe_int (pa_cons pe_int (pa_cons pe_int pa_nil)))) (pg_call (ok__law_draw T) (by exact hr.mono (by decide)) (by exact hg) (by rfl) (by exact T.g__law_draw) (by exact T.F__law_draw.kp) T.b__law_draw_2 passG (pa_cons (pv 2) (pa_cons pe_int pa_nil))) (fun _ _ => rfl)) pa_nil)))))
  (pss_cons (ps_set (i := 4) sc_law.nd rfl (Or.inl rfl) (pe_ifExp (pt_cmpR op_gt (pg_call (ok__law_draw T) (by exact hr.mono (by decide)) (by exact hg) (by rfl) (by exact T.g__law_draw) (by exact T.F__law_draw.kp) T.b__law_draw_2 passG (pa_cons (pv 2) (pa_cons pe_int pa_nil))) pe_int (nomark _)) (pv 3) (pe_op op_add pe_int (pg_call (ok__law_draw T) (by exact hr.mono (by decide)) (by exact hg) (by rfl) (by exact T.g__law_draw) (by exact T.F__law_draw.kp) T.b__law_draw_2 passG (pa_cons (pv 2) (pa_cons pe_int pa_nil))))))
  (pss_cons (ps_par (i := 5) (j := 6) rfl sc_law.nd rfl rfl (by decide) rfl rfl (pa_cons (pe_lst (pa_cons (pg_make T.K_Regions (ok_RegionsU_initU T) (by exact hr.mono (by decide)) (by exact hg) (by rfl) (by exact T.g_Regions) T.b_RegionsU_initU_1 passG (pa_cons (pv 3) pa_nil)) (pa_cons (pg_makeK0 T.K_Regions (ok_RegionsU_initU T) (by exact hr.mono (by decide)) (by exact hg) (by rfl) (by exact T.g_Regions) T.b_RegionsU_initU_0_n passG (pk_cons (pv 4) pk_nil)) pa_nil))) (pa_cons (pe_lst (pa_cons (pe_lst (pa_cons (pv 3) (pa_cons pe_int (pa_cons (pe_lst pa_nil) pa_nil)))) (pa_cons (pe_lst (pa_cons (pv 4) (pa_cons pe_int (pa_cons (pe_lst pa_nil) pa_nil)))) pa_nil))) pa_nil)) (by rfl))
  (pss_one (ps_for PassesOwn.never rfl (pi_range1 (by rfl) (by exact T.z_range) (pa_cons (pe_op op_add pe_int (pg_call (ok__law_draw T) (by exact hr.mono (by decide)) (by exact hg) (by rfl) (by exact T.g__law_draw) (by exact T.F__law_draw.kp) T.b__law_draw_2 passG (pa_cons (pv 2) (pa_cons pe_int pa_nil)))) pa_nil)) (pg_name (i := 7) sc_law.nd rfl (Or.inl rfl))
  (pss_cons (ps_set (i := 8) sc_law.nd rfl (Or.inl rfl) (pg_call (ok__law_draw T) (by exact hr.mono (by decide)) (by exact hg) (by rfl) (by exact T.g__law_draw) (by exact T.F__law_draw.kp) T.b__law_draw_2 passG (pa_cons (pv 2) (pa_cons pe_int pa_nil))))
  (pss_cons (ps_if (pt_not (pt_val (pg_call (ok__law_step T) (by exact hr.mono (by decide)) (by exact hg) (by rfl) (by exact T.g__law_step) (by exact T.F__law_step.kp) T.b__law_step_3 passG (pa_cons (pv 2) (pa_cons (pe_ix ix_seq (pv 5) (pv 8) (fun _ _ => rfl)) (pa_cons (pe_ix ix_seq (pv 6) (pv 8) (fun _ _ => rfl)) pa_nil)))))) (pss_one (ps_ret pe_bl)) pss_nil)
  (pss_cons (ps_if (pt_cmpR (op_neD (by exact room64 hr)) (pe_lc (own := [("own", 9), ("state", 10)]) rfl sc_law.nd (pi_zip (by rfl) (by exact T.z_zip) (pa_cons (pv 5) (pa_cons (pv 6) pa_nil))) (blkOk_by (by show blkC ["script", "k", "well", "n", "other", "pair", "states", "turn", "which", "own", "state", "due"] (defScope s_law) _ _ = true; decide +kernel)) (fun _ _ _ _ _ => (pg_tup rfl (pgs_cons (pg_name (i := 9) sc_law.nd rfl (Or.inl rfl)) (pgs_cons (pg_name (i := 10) sc_law.nd rfl (Or.inl rfl)) pgs_nil)))) (fun _ _ _ _ _ => (pts_one (pt_not (pt_val (pg_call (ok__law_shows T) (by exact hr.mono (by decide)) (by exact hg) (by rfl) (by exact T.g__law_shows) (by exact T.F__law_shows.kp) T.b__law_shows_2 passG (pa_cons (pv 9) (pa_cons (pv 10) pa_nil))))))) (fun _ _ _ _ _ => pe_int)) (pe_lst pa_nil) (nomark _)) (pss_one (ps_ret pe_bl)) pss_nil)
  (pss_cons (ps_set (i := 11) sc_law.nd rfl (Or.inl rfl) (pe_cmpR (op_eqD (by exact room64 hr)) (pe_ix ix_seq (pv 6) pe_int (fun _ _ => rfl)) (pe_ix ix_seq (pv 6) pe_int (fun _ _ => rfl)) (nomark _)))
  (pss_cons (ps_if (PW.pt (pw_or (pt_cmpR (op_neD (by exact room64 hr)) (pe_cmpR (op_own (ok_RegionsU_eqU T) (by exact hr.mono (by decide)) (by exact hg) T.bo_RegionsU_eqU passG T.M_RegionsU_eqU.at_ T.M_RegionsU_eqU.fn rfl) (pe_ix ix_seq (pv 5) pe_int (fun _ _ => rfl)) (pe_ix ix_seq (pv 5) pe_int (fun _ _ => rfl)) (nomark _)) (pv 11) (nomark _)) (pw_or (pt_cmpR (op_eqD (by exact room64 hr)) (pe_cmpR (op_own (ok_RegionsU_neU T) (by exact hr.mono (by decide)) (by exact hg) T.bo_RegionsU_neU passG T.M_RegionsU_neU.at_ T.M_RegionsU_neU.fn rfl) (pe_ix ix_seq (pv 5) pe_int (fun _ _ => rfl)) (pe_ix ix_seq (pv 5) pe_int (fun _ _ => rfl)) (nomark _)) (pv 11) (nomark _)) (pw_or (pt_cmpR (op_own (ok_RegionsU_eqU T) (by exact hr.mono (by decide)) (by exact hg) T.bo_RegionsU_eqU passG T.M_RegionsU_eqU.at_ T.M_RegionsU_eqU.fn rfl) (pe_ix ix_seq (pv 5) pe_int (fun _ _ => rfl)) (pe_ix ix_seq (pv 6) pe_int (fun _ _ => rfl)) (nomark _)) (pw_or1 (pt_cmpR (op_own (ok_RegionsU_eqU T) (by exact hr.mono (by decide)) (by exact hg) T.bo_RegionsU_eqU passG T.M_RegionsU_eqU.at_ T.M_RegionsU_eqU.fn rfl) (pe_ix ix_seq (pv 5) pe_int (fun _ _ => rfl)) pe_non (nomark _))))))) (pss_one (ps_ret pe_bl)) pss_nil)
  (pss_one (ps_if (pt_cmpR (op_eqD (by exact room64 hr)) (pg_call (ok__law_draw T) (by exact hr.mono (by decide)) (by exact hg) (by rfl) (by exact T.g__law_draw) (by exact T.F__law_draw.kp) T.b__law_draw_2 passG (pa_cons (pv 2) (pa_cons pe_int pa_nil))) pe_int (nomark _)) (pss_one (ps_asg (pe_tup (pa_cons (pg_meth0 (pe_ix ix_seq (pv 5) pe_int (fun _ _ => rfl)) T.c_Regions T.M_Regions_twin (ok_Regions_twin T) (by exact hr.mono (by decide)) (by exact hg) T.b_Regions_twin_0 passG) (pa_cons (pe_lst (pa_cons (pe_ix ix_seq (pe_ix ix_seq (pv 6) pe_int (fun _ _ => rfl)) pe_int (fun _ _ => rfl)) (pa_cons (pe_ix ix_seq (pe_ix ix_seq (pv 6) pe_int (fun _ _ => rfl)) pe_int (fun _ _ => rfl)) (pa_cons (pe_callTy call_list_of (by rfl) (by exact T.z_list) bt_list (pa_cons (pe_ix ix_seq (pe_ix ix_seq (pv 6) pe_int (fun _ _ => rfl)) pe_int (fun _ _ => rfl)) pa_nil)) pa_nil)))) pa_nil))) (pg_tup rfl (pgs_cons (pg_sub (pv 5) pe_int set_list) (pgs_cons (pg_sub (pv 6) pe_int set_list) pgs_nil))))) pss_nil))))))))))))))
  (pss_one (ps_ret pe_bl))),
  (sv_seq (sv_for (ei_range1 (ev_call2 op_max2 ev_int (ev_call2 op_min2 ev_int (ev_call1 op_len ev_var)))) (g_name (by decide))
  (sv_seq (sv_asg (ev_call (Wf := W__law_well a) (n := 2) (m := 0) mk_pos (ea_cons ev_var (ea_cons ev_var ea_nil)) ea_nil) (g_name (by decide)))
  (sv_seq (sv_asg (ev_add ev_int (ev_call (Wf := W__law_draw a) (n := 2) (m := 0) mk_pos (ea_cons ev_var (ea_cons (ev_op2 op_ix (ev_lst (ea_cons ev_int (ea_cons ev_int (ea_cons ev_int ea_nil)))) (ev_call (Wf := W__law_draw a) (n := 2) (m := 0) mk_pos (ea_cons ev_var (ea_cons ev_int ea_nil)) ea_nil)) ea_nil)) ea_nil)) (g_name (by decide)))
  (sv_seq (sv_asg (ev_if (et_test (ev_gt (ev_call (Wf := W__law_draw a) (n := 2) (m := 0) mk_pos (ea_cons ev_var (ea_cons ev_int ea_nil)) ea_nil) ev_int)) ev_var (ev_add ev_int (ev_call (Wf := W__law_draw a) (n := 2) (m := 0) mk_pos (ea_cons ev_var (ea_cons ev_int ea_nil)) ea_nil))) (g_name (by decide)))
  (sv_stop (sv_seq (sv_par (by decide) (by decide) (ea_cons (ev_lst (ea_cons (ev_make (Wf := W_RegionsU_initU a) (n := 1) (m := 0) mk_pos (ea_cons ev_var ea_nil) ea_nil) (ea_cons (ev_make (Wf := W_RegionsU_initU a) (n := 0) (m := 1) mk_app ea_nil (ea_cons ev_var ea_nil)) ea_nil))) (ea_cons (ev_lst (ea_cons (ev_lst (ea_cons ev_var (ea_cons ev_int (ea_cons (ev_lst ea_nil) ea_nil)))) (ea_cons (ev_lst (ea_cons ev_var (ea_cons ev_int (ea_cons (ev_lst ea_nil) ea_nil)))) ea_nil))) ea_nil)))
  (sv_for (ei_range1 (ev_add ev_int (ev_call (Wf := W__law_draw a) (n := 2) (m := 0) mk_pos (ea_cons ev_var (ea_cons ev_int ea_nil)) ea_nil))) (g_name (by decide))
  (sv_seq (sv_asg (ev_call (Wf := W__law_draw a) (n := 2) (m := 0) mk_pos (ea_cons ev_var (ea_cons ev_int ea_nil)) ea_nil) (g_name (by decide)))
  (sv_seq (sv_if (et_not (et_B (ev_call (Wf := W__law_step a) (n := 3) (m := 0) mk_pos (ea_cons ev_var (ea_cons (ev_op2 op_ix ev_var ev_var) (ea_cons (ev_op2 op_ix ev_var ev_var) ea_nil))) ea_nil))) (sv_ret ev_bl) sv_next)
  (sv_stop (sv_seq (sv_if (et_test (ev_ne (ev_lcZ (b1 := 9) (b2 := 10) (wv := [9, 10]) (by decide) (by decide) (by decide) (by decide) ev_var ev_var (et_not (et_B (ev_call (Wf := W__law_shows a) (n := 2) (m := 0) mk_pos (ea_cons ev_var (ea_cons ev_var ea_nil)) ea_nil))) ev_int) (ev_lst ea_nil))) (sv_ret ev_bl) sv_next)
  (sv_seq (sv_asg (ev_eq (ev_op2 op_ix ev_var ev_int) (ev_op2 op_ix ev_var ev_int)) (g_name (by decide)))
  (sv_seq (sv_if (et_or (et_test (ev_ne (ev_own (Wf := W_RegionsU_eqU a) (ev_op2 op_ix ev_var ev_int) (ev_op2 op_ix ev_var ev_int)) ev_var)) (et_or (et_test (ev_eq (ev_own (Wf := W_RegionsU_neU a) (ev_op2 op_ix ev_var ev_int) (ev_op2 op_ix ev_var ev_int)) ev_var)) (et_or (et_test (ev_own (Wf := W_RegionsU_eqU a) (ev_op2 op_ix ev_var ev_int) (ev_op2 op_ix ev_var ev_int))) (et_test (ev_own (Wf := W_RegionsU_eqU a) (ev_op2 op_ix ev_var ev_int) ev_non))))) (sv_ret ev_bl) sv_next)
  (sv_stop (sv_if (et_test (ev_eq (ev_call (Wf := W__law_draw a) (n := 2) (m := 0) mk_pos (ea_cons ev_var (ea_cons ev_int ea_nil)) ea_nil) ev_int)) (sv_asg (ev_tupO (ea_cons (ev_meth (Wf := W_Regions_twin a) (n := 0) (m := 0) mk_pos (ev_op2 op_ix ev_var ev_int) ea_nil ea_nil) (ea_cons (ev_lst (ea_cons (ev_op2 op_ix (ev_op2 op_ix ev_var ev_int) ev_int) (ea_cons (ev_op2 op_ix (ev_op2 op_ix ev_var ev_int) ev_int) (ea_cons (ev_call1 op_list (ev_op2 op_ix (ev_op2 op_ix ev_var ev_int) ev_int)) ea_nil)))) ea_nil))) (g_tup (g_cons (g_sub ev_var ev_int) (g_cons (g_sub ev_var ev_int) g_nil)))) sv_next)))))))))))))))
  (sv_ret ev_bl)),
  law_law T⟩)

end K64

namespace K64
open PySem L2 Hz PyProof.Rows
theorem all_mk {l : PySem.W.OpenLaw} {w : World} {K : PySem.W.Frag} {h : Heap} {mg : Str → Option Value} {fa : Addr} {C_Regions : Addr} {f_need_number : Addr} {oc_need_number kV_need_number dc_need_number pm_need_number cd_need_number ct_need_number : Value} {od_need_number an_need_number : Option Addr} {sl_need_number : Array (Option Value)} {f_RegionsU_initU : Addr} {oc_RegionsU_initU kV_RegionsU_initU dc_RegionsU_initU pm_RegionsU_initU cd_RegionsU_initU ct_RegionsU_initU : Value} {od_RegionsU_initU an_RegionsU_initU : Option Addr} {sl_RegionsU_initU : Array (Option Value)} {f_Regions_take : Addr} {oc_Regions_take kV_Regions_take dc_Regions_take pm_Regions_take cd_Regions_take ct_Regions_take : Value} {od_Regions_take an_Regions_take : Option Addr} {sl_Regions_take : Array (Option Value)} {f_Regions_mark : Addr} {oc_Regions_mark kV_Regions_mark dc_Regions_mark pm_Regions_mark cd_Regions_mark ct_Regions_mark : Value} {od_Regions_mark an_Regions_mark : Option Addr} {sl_Regions_mark : Array (Option Value)} {f_Regions_back : Addr} {oc_Regions_back kV_Regions_back dc_Regions_back pm_Regions_back cd_Regions_back ct_Regions_back : Value} {od_Regions_back an_Regions_back : Option Addr} {sl_Regions_back : Array (Option Value)} {f_Regions_top : Addr} {oc_Regions_top kV_Regions_top dc_Regions_top pm_Regions_top cd_Regions_top ct_Regions_top : Value} {od_Regions_top an_Regions_top : Option Addr} {sl_Regions_top : Array (Option Value)} {f_Regions_marks : Addr} {oc_Regions_marks kV_Regions_marks dc_Regions_marks pm_Regions_marks cd_Regions_marks ct_Regions_marks : Value} {od_Regions_marks an_Regions_marks : Option Addr} {sl_Regions_marks : Array (Option Value)} {f_Regions_twin : Addr} {oc_Regions_twin kV_Regions_twin dc_Regions_twin pm_Regions_twin cd_Regions_twin ct_Regions_twin : Value} {od_Regions_twin an_Regions_twin : Option Addr} {sl_Regions_twin : Array (Option Value)} {f_RegionsU_eqU : Addr} {oc_RegionsU_eqU kV_RegionsU_eqU dc_RegionsU_eqU pm_RegionsU_eqU cd_RegionsU_eqU ct_RegionsU_eqU : Value} {od_RegionsU_eqU an_RegionsU_eqU : Option Addr} {sl_RegionsU_eqU : Array (Option Value)} {f_RegionsU_neU : Addr} {oc_RegionsU_neU kV_RegionsU_neU dc_RegionsU_neU pm_RegionsU_neU cd_RegionsU_neU ct_RegionsU_neU : Value} {od_RegionsU_neU an_RegionsU_neU : Option Addr} {sl_RegionsU_neU : Array (Option Value)} {f__law_well : Addr} {oc__law_well kV__law_well dc__law_well pm__law_well cd__law_well ct__law_well : Value} {od__law_well an__law_well : Option Addr} {sl__law_well : Array (Option Value)} {f__law_draw : Addr} {oc__law_draw kV__law_draw dc__law_draw pm__law_draw cd__law_draw ct__law_draw : Value} {od__law_draw an__law_draw : Option Addr} {sl__law_draw : Array (Option Value)} {f__law_step : Addr} {oc__law_step kV__law_step dc__law_step pm__law_step cd__law_step ct__law_step : Value} {od__law_step an__law_step : Option Addr} {sl__law_step : Array (Option Value)} {f__law_shows : Addr} {oc__law_shows kV__law_shows dc__law_shows pm__law_shows cd__law_shows ct__law_shows : Value} {od__law_shows an__law_shows : Option Addr} {sl__law_shows : Array (Option Value)} {f_law : Addr} {oc_law kV_law dc_law pm_law cd_law ct_law : Value} {od_law an_law : Option Addr} {sl_law : Array (Option Value)} {tv_MOST_CELLS : Tok} (X : K.In h) (G : h.Ns mainGlobals mg) (hfa : mg "law" = some (.ref fa))
    (aC_Regions : PySem.W.nsIn K mainGlobals "Regions" = some (some (.ref C_Regions)))
    (a_need_number : PySem.W.nsIn K mainGlobals "need_number" = some (some (.ref f_need_number)))
    (l_need_number : K.lookup f_need_number = some ⟨oc_need_number, od_need_number, .func (PySem.W.fnOf "need_number" "need_number" (defArgs s_need_number) (defBody s_need_number) (defScope s_need_number) .none kV_need_number dc_need_number pm_need_number an_need_number cd_need_number ct_need_number), sl_need_number⟩)
    (c_need_number : PySem.W.codeIn K cd_need_number "need_number" = true)
    (k_need_number : PySem.W.keepIn K (.ref f_need_number) = true)
    (a_RegionsU_initU : PySem.W.findIn K (.ref C_Regions) "__init__" = some (some (.ref f_RegionsU_initU)))
    (i_RegionsU_initU : PySem.W.isFn K (.ref f_RegionsU_initU) = true)
    (l_RegionsU_initU : K.lookup f_RegionsU_initU = some ⟨oc_RegionsU_initU, od_RegionsU_initU, .func (PySem.W.fnOf "__init__" "Regions.__init__" (defArgs s_RegionsU_initU) (defBody s_RegionsU_initU) (defScope s_RegionsU_initU) .none kV_RegionsU_initU dc_RegionsU_initU pm_RegionsU_initU an_RegionsU_initU cd_RegionsU_initU ct_RegionsU_initU), sl_RegionsU_initU⟩)
    (c_RegionsU_initU : PySem.W.codeIn K cd_RegionsU_initU "Regions.__init__" = true)
    (k_RegionsU_initU : PySem.W.keepIn K (.ref f_RegionsU_initU) = true)
    (a_Regions_take : PySem.W.findIn K (.ref C_Regions) "take" = some (some (.ref f_Regions_take)))
    (i_Regions_take : PySem.W.isFn K (.ref f_Regions_take) = true)
    (l_Regions_take : K.lookup f_Regions_take = some ⟨oc_Regions_take, od_Regions_take, .func (PySem.W.fnOf "take" "Regions.take" (defArgs s_Regions_take) (defBody s_Regions_take) (defScope s_Regions_take) .none kV_Regions_take dc_Regions_take pm_Regions_take an_Regions_take cd_Regions_take ct_Regions_take), sl_Regions_take⟩)
    (c_Regions_take : PySem.W.codeIn K cd_Regions_take "Regions.take" = true)
    (k_Regions_take : PySem.W.keepIn K (.ref f_Regions_take) = true)
    (a_Regions_mark : PySem.W.findIn K (.ref C_Regions) "mark" = some (some (.ref f_Regions_mark)))
    (i_Regions_mark : PySem.W.isFn K (.ref f_Regions_mark) = true)
    (l_Regions_mark : K.lookup f_Regions_mark = some ⟨oc_Regions_mark, od_Regions_mark, .func (PySem.W.fnOf "mark" "Regions.mark" (defArgs s_Regions_mark) (defBody s_Regions_mark) (defScope s_Regions_mark) .none kV_Regions_mark dc_Regions_mark pm_Regions_mark an_Regions_mark cd_Regions_mark ct_Regions_mark), sl_Regions_mark⟩)
    (c_Regions_mark : PySem.W.codeIn K cd_Regions_mark "Regions.mark" = true)
    (k_Regions_mark : PySem.W.keepIn K (.ref f_Regions_mark) = true)
    (a_Regions_back : PySem.W.findIn K (.ref C_Regions) "back" = some (some (.ref f_Regions_back)))
    (i_Regions_back : PySem.W.isFn K (.ref f_Regions_back) = true)
    (l_Regions_back : K.lookup f_Regions_back = some ⟨oc_Regions_back, od_Regions_back, .func (PySem.W.fnOf "back" "Regions.back" (defArgs s_Regions_back) (defBody s_Regions_back) (defScope s_Regions_back) .none kV_Regions_back dc_Regions_back pm_Regions_back an_Regions_back cd_Regions_back ct_Regions_back), sl_Regions_back⟩)
    (c_Regions_back : PySem.W.codeIn K cd_Regions_back "Regions.back" = true)
    (k_Regions_back : PySem.W.keepIn K (.ref f_Regions_back) = true)
    (a_Regions_top : PySem.W.findIn K (.ref C_Regions) "top" = some (some (.ref f_Regions_top)))
    (i_Regions_top : PySem.W.isFn K (.ref f_Regions_top) = true)
    (l_Regions_top : K.lookup f_Regions_top = some ⟨oc_Regions_top, od_Regions_top, .func (PySem.W.fnOf "top" "Regions.top" (defArgs s_Regions_top) (defBody s_Regions_top) (defScope s_Regions_top) .none kV_Regions_top dc_Regions_top pm_Regions_top an_Regions_top cd_Regions_top ct_Regions_top), sl_Regions_top⟩)
    (c_Regions_top : PySem.W.codeIn K cd_Regions_top "Regions.top" = true)
    (k_Regions_top : PySem.W.keepIn K (.ref f_Regions_top) = true)
    (a_Regions_marks : PySem.W.findIn K (.ref C_Regions) "marks" = some (some (.ref f_Regions_marks)))
    (i_Regions_marks : PySem.W.isFn K (.ref f_Regions_marks) = true)
    (l_Regions_marks : K.lookup f_Regions_marks = some ⟨oc_Regions_marks, od_Regions_marks, .func (PySem.W.fnOf "marks" "Regions.marks" (defArgs s_Regions_marks) (defBody s_Regions_marks) (defScope s_Regions_marks) .none kV_Regions_marks dc_Regions_marks pm_Regions_marks an_Regions_marks cd_Regions_marks ct_Regions_marks), sl_Regions_marks⟩)
    (c_Regions_marks : PySem.W.codeIn K cd_Regions_marks "Regions.marks" = true)
    (k_Regions_marks : PySem.W.keepIn K (.ref f_Regions_marks) = true)
    (a_Regions_twin : PySem.W.findIn K (.ref C_Regions) "twin" = some (some (.ref f_Regions_twin)))
    (i_Regions_twin : PySem.W.isFn K (.ref f_Regions_twin) = true)
    (l_Regions_twin : K.lookup f_Regions_twin = some ⟨oc_Regions_twin, od_Regions_twin, .func (PySem.W.fnOf "twin" "Regions.twin" (defArgs s_Regions_twin) (defBody s_Regions_twin) (defScope s_Regions_twin) .none kV_Regions_twin dc_Regions_twin pm_Regions_twin an_Regions_twin cd_Regions_twin ct_Regions_twin), sl_Regions_twin⟩)
    (c_Regions_twin : PySem.W.codeIn K cd_Regions_twin "Regions.twin" = true)
    (k_Regions_twin : PySem.W.keepIn K (.ref f_Regions_twin) = true)
    (a_RegionsU_eqU : PySem.W.findIn K (.ref C_Regions) "__eq__" = some (some (.ref f_RegionsU_eqU)))
    (i_RegionsU_eqU : PySem.W.isFn K (.ref f_RegionsU_eqU) = true)
    (l_RegionsU_eqU : K.lookup f_RegionsU_eqU = some ⟨oc_RegionsU_eqU, od_RegionsU_eqU, .func (PySem.W.fnOf "__eq__" "Regions.__eq__" (defArgs s_RegionsU_eqU) (defBody s_RegionsU_eqU) (defScope s_RegionsU_eqU) .none kV_RegionsU_eqU dc_RegionsU_eqU pm_RegionsU_eqU an_RegionsU_eqU cd_RegionsU_eqU ct_RegionsU_eqU), sl_RegionsU_eqU⟩)
    (c_RegionsU_eqU : PySem.W.codeIn K cd_RegionsU_eqU "Regions.__eq__" = true)
    (k_RegionsU_eqU : PySem.W.keepIn K (.ref f_RegionsU_eqU) = true)
    (a_RegionsU_neU : PySem.W.findIn K (.ref C_Regions) "__ne__" = some (some (.ref f_RegionsU_neU)))
    (i_RegionsU_neU : PySem.W.isFn K (.ref f_RegionsU_neU) = true)
    (l_RegionsU_neU : K.lookup f_RegionsU_neU = some ⟨oc_RegionsU_neU, od_RegionsU_neU, .func (PySem.W.fnOf "__ne__" "Regions.__ne__" (defArgs s_RegionsU_neU) (defBody s_RegionsU_neU) (defScope s_RegionsU_neU) .none kV_RegionsU_neU dc_RegionsU_neU pm_RegionsU_neU an_RegionsU_neU cd_RegionsU_neU ct_RegionsU_neU), sl_RegionsU_neU⟩)
    (c_RegionsU_neU : PySem.W.codeIn K cd_RegionsU_neU "Regions.__ne__" = true)
    (k_RegionsU_neU : PySem.W.keepIn K (.ref f_RegionsU_neU) = true)
    (a__law_well : PySem.W.nsIn K mainGlobals "_law_well" = some (some (.ref f__law_well)))
    (l__law_well : K.lookup f__law_well = some ⟨oc__law_well, od__law_well, .func (PySem.W.fnOf "_law_well" "_law_well" (defArgs s__law_well) (defBody s__law_well) (defScope s__law_well) .none kV__law_well dc__law_well pm__law_well an__law_well cd__law_well ct__law_well), sl__law_well⟩)
    (c__law_well : PySem.W.codeIn K cd__law_well "_law_well" = true)
    (k__law_well : PySem.W.keepIn K (.ref f__law_well) = true)
    (a__law_draw : PySem.W.nsIn K mainGlobals "_law_draw" = some (some (.ref f__law_draw)))
    (l__law_draw : K.lookup f__law_draw = some ⟨oc__law_draw, od__law_draw, .func (PySem.W.fnOf "_law_draw" "_law_draw" (defArgs s__law_draw) (defBody s__law_draw) (defScope s__law_draw) .none kV__law_draw dc__law_draw pm__law_draw an__law_draw cd__law_draw ct__law_draw), sl__law_draw⟩)
    (c__law_draw : PySem.W.codeIn K cd__law_draw "_law_draw" = true)
    (k__law_draw : PySem.W.keepIn K (.ref f__law_draw) = true)
    (a__law_step : PySem.W.nsIn K mainGlobals "_law_step" = some (some (.ref f__law_step)))
    (l__law_step : K.lookup f__law_step = some ⟨oc__law_step, od__law_step, .func (PySem.W.fnOf "_law_step" "_law_step" (defArgs s__law_step) (defBody s__law_step) (defScope s__law_step) .none kV__law_step dc__law_step pm__law_step an__law_step cd__law_step ct__law_step), sl__law_step⟩)
    (c__law_step : PySem.W.codeIn K cd__law_step "_law_step" = true)
    (k__law_step : PySem.W.keepIn K (.ref f__law_step) = true)
    (a__law_shows : PySem.W.nsIn K mainGlobals "_law_shows" = some (some (.ref f__law_shows)))
    (l__law_shows : K.lookup f__law_shows = some ⟨oc__law_shows, od__law_shows, .func (PySem.W.fnOf "_law_shows" "_law_shows" (defArgs s__law_shows) (defBody s__law_shows) (defScope s__law_shows) .none kV__law_shows dc__law_shows pm__law_shows an__law_shows cd__law_shows ct__law_shows), sl__law_shows⟩)
    (c__law_shows : PySem.W.codeIn K cd__law_shows "_law_shows" = true)
    (k__law_shows : PySem.W.keepIn K (.ref f__law_shows) = true)
    (a_law : PySem.W.nsIn K mainGlobals "law" = some (some (.ref f_law)))
    (l_law : K.lookup f_law = some ⟨oc_law, od_law, .func (PySem.W.fnOf "law" "law" (defArgs s_law) (defBody s_law) (defScope s_law) .none kV_law dc_law pm_law an_law cd_law ct_law), sl_law⟩)
    (c_law : PySem.W.codeIn K cd_law "law" = true)
    (k_law : PySem.W.keepIn K (.ref f_law) = true)
    (pg_Regions : PySem.W.plainGet K C_Regions Str.empty = true)
    (hd_Regions : PySem.W.hasDictIn K C_Regions = true)
    (po_Regions : PySem.W.plainOver K C_Regions = true)
    (sa_Regions : PySem.W.findIn K (.ref C_Regions) "__setattr__" = some (some (.builtin "object.__setattr__")))
    (ha_Regions : PySem.W.findIn K (.ref C_Regions) "__class__" = some (some (.builtin "object.__class__")))
    (hn_Regions : PySem.W.specialIn K (.builtin "object.__class__") "__get__" = some (some (.builtin "getset_descriptor.__get__")))
    (tk_Regions : PySem.W.takesIn K (.builtin "object.__class__") = some true)
    (hm_Regions : PySem.W.mroIn K C_Regions (.type "object") = some true)
    (mk_Regions : PySem.W.makesIn K C_Regions = true)
    (kc_Regions : PySem.W.keepIn K (.ref C_Regions) = true)
    (n_Regions_end : PySem.W.findIn K (.ref C_Regions) "end" = some none)
    (n_Regions_ends : PySem.W.findIn K (.ref C_Regions) "ends" = some none)
    (n_Regions_n : PySem.W.findIn K (.ref C_Regions) "n" = some none)
    (gv_MOST_CELLS : PySem.W.nsIn K mainGlobals "MOST_CELLS" = some (some (.int 400 tv_MOST_CELLS)))
    (z_abs : PySem.W.nsIn K mainGlobals "abs" = some none)
    (z_int : PySem.W.nsIn K mainGlobals "int" = some none)
    (z_isinstance : PySem.W.nsIn K mainGlobals "isinstance" = some none)
    (z_len : PySem.W.nsIn K mainGlobals "len" = some none)
    (z_list : PySem.W.nsIn K mainGlobals "list" = some none)
    (z_max : PySem.W.nsIn K mainGlobals "max" = some none)
    (z_min : PySem.W.nsIn K mainGlobals "min" = some none)
    (z_range : PySem.W.nsIn K mainGlobals "range" = some none)
    (z_repr : PySem.W.nsIn K mainGlobals "repr" = some none)
    (z_tuple : PySem.W.nsIn K mainGlobals "tuple" = some none)
    (z_zip : PySem.W.nsIn K mainGlobals "zip" = some none)
    (ic_Regions : PySem.W.isClsIn K C_Regions = true)
    (ty_Regions : PySem.W.typeIn K (.ref C_Regions) = some (.type "type"))
    (u_list_Regions : PySem.W.subIn K (.type "list") (.ref C_Regions) = some false)
    (u_NoneType_Regions : PySem.W.subIn K (.type "NoneType") (.ref C_Regions) = some false)
    (s_list : PySem.W.notFirst K C_Regions (.type "list") = true)
    (s_none : PySem.W.notFirst K C_Regions (.type "NoneType") = true) :
    ∃ fd : FuncData, (∀ (s : Shared) (v : Value), BindsTo s fd ⟨[v], []⟩ [("script", v)]) ∧ ∀ base : Heap, K.In base → base.Ns mainGlobals mg → FnG l.prog w K mg base CX0 5 fa fd ["script"] (spT K wellO (lawW 63)) := by
  have e := hfa.symm.trans (PySem.W.mg_of X G a_law)
  cases e
  have T : Tx K mg { C_Regions := C_Regions, f_need_number := f_need_number, d_need_number := PySem.W.fnOf "need_number" "need_number" (defArgs s_need_number) (defBody s_need_number) (defScope s_need_number) .none kV_need_number dc_need_number pm_need_number an_need_number cd_need_number ct_need_number, f_RegionsU_initU := f_RegionsU_initU, d_RegionsU_initU := PySem.W.fnOf "__init__" "Regions.__init__" (defArgs s_RegionsU_initU) (defBody s_RegionsU_initU) (defScope s_RegionsU_initU) .none kV_RegionsU_initU dc_RegionsU_initU pm_RegionsU_initU an_RegionsU_initU cd_RegionsU_initU ct_RegionsU_initU, f_Regions_take := f_Regions_take, d_Regions_take := PySem.W.fnOf "take" "Regions.take" (defArgs s_Regions_take) (defBody s_Regions_take) (defScope s_Regions_take) .none kV_Regions_take dc_Regions_take pm_Regions_take an_Regions_take cd_Regions_take ct_Regions_take, f_Regions_mark := f_Regions_mark, d_Regions_mark := PySem.W.fnOf "mark" "Regions.mark" (defArgs s_Regions_mark) (defBody s_Regions_mark) (defScope s_Regions_mark) .none kV_Regions_mark dc_Regions_mark pm_Regions_mark an_Regions_mark cd_Regions_mark ct_Regions_mark, f_Regions_back := f_Regions_back, d_Regions_back := PySem.W.fnOf "back" "Regions.back" (defArgs s_Regions_back) (defBody s_Regions_back) (defScope s_Regions_back) .none kV_Regions_back dc_Regions_back pm_Regions_back an_Regions_back cd_Regions_back ct_Regions_back, f_Regions_top := f_Regions_top, d_Regions_top := PySem.W.fnOf "top" "Regions.top" (defArgs s_Regions_top) (defBody s_Regions_top) (defScope s_Regions_top) .none kV_Regions_top dc_Regions_top pm_Regions_top an_Regions_top cd_Regions_top ct_Regions_top, f_Regions_marks := f_Regions_marks, d_Regions_marks := PySem.W.fnOf "marks" "Regions.marks" (defArgs s_Regions_marks) (defBody s_Regions_marks) (defScope s_Regions_marks) .none kV_Regions_marks dc_Regions_marks pm_Regions_marks an_Regions_marks cd_Regions_marks ct_Regions_marks, f_Regions_twin := f_Regions_twin, d_Regions_twin := PySem.W.fnOf "twin" "Regions.twin" (defArgs s_Regions_twin) (defBody s_Regions_twin) (defScope s_Regions_twin) .none kV_Regions_twin dc_Regions_twin pm_Regions_twin an_Regions_twin cd_Regions_twin ct_Regions_twin, f_RegionsU_eqU := f_RegionsU_eqU, d_RegionsU_eqU := PySem.W.fnOf "__eq__" "Regions.__eq__" (defArgs s_RegionsU_eqU) (defBody s_RegionsU_eqU) (defScope s_RegionsU_eqU) .none kV_RegionsU_eqU dc_RegionsU_eqU pm_RegionsU_eqU an_RegionsU_eqU cd_RegionsU_eqU ct_RegionsU_eqU, f_RegionsU_neU := f_RegionsU_neU, d_RegionsU_neU := PySem.W.fnOf "__ne__" "Regions.__ne__" (defArgs s_RegionsU_neU) (defBody s_RegionsU_neU) (defScope s_RegionsU_neU) .none kV_RegionsU_neU dc_RegionsU_neU pm_RegionsU_neU an_RegionsU_neU cd_RegionsU_neU ct_RegionsU_neU, f__law_well := f__law_well, d__law_well := PySem.W.fnOf "_law_well" "_law_well" (defArgs s__law_well) (defBody s__law_well) (defScope s__law_well) .none kV__law_well dc__law_well pm__law_well an__law_well cd__law_well ct__law_well, f__law_draw := f__law_draw, d__law_draw := PySem.W.fnOf "_law_draw" "_law_draw" (defArgs s__law_draw) (defBody s__law_draw) (defScope s__law_draw) .none kV__law_draw dc__law_draw pm__law_draw an__law_draw cd__law_draw ct__law_draw, f__law_step := f__law_step, d__law_step := PySem.W.fnOf "_law_step" "_law_step" (defArgs s__law_step) (defBody s__law_step) (defScope s__law_step) .none kV__law_step dc__law_step pm__law_step an__law_step cd__law_step ct__law_step, f__law_shows := f__law_shows, d__law_shows := PySem.W.fnOf "_law_shows" "_law_shows" (defArgs s__law_shows) (defBody s__law_shows) (defScope s__law_shows) .none kV__law_shows dc__law_shows pm__law_shows an__law_shows cd__law_shows ct__law_shows, f_law := fa, d_law := PySem.W.fnOf "law" "law" (defArgs s_law) (defBody s_law) (defScope s_law) .none kV_law dc_law pm_law an_law cd_law ct_law, v_MOST_CELLS := .int 400 tv_MOST_CELLS } := { F_need_number := fun_mk (st := s_need_number) l_need_number c_need_number k_need_number, g_need_number := PySem.W.mg_of X G a_need_number, F_RegionsU_initU := fun_mk (st := s_RegionsU_initU) l_RegionsU_initU c_RegionsU_initU k_RegionsU_initU, F_Regions_take := fun_mk (st := s_Regions_take) l_Regions_take c_Regions_take k_Regions_take, F_Regions_mark := fun_mk (st := s_Regions_mark) l_Regions_mark c_Regions_mark k_Regions_mark, F_Regions_back := fun_mk (st := s_Regions_back) l_Regions_back c_Regions_back k_Regions_back, F_Regions_top := fun_mk (st := s_Regions_top) l_Regions_top c_Regions_top k_Regions_top, F_Regions_marks := fun_mk (st := s_Regions_marks) l_Regions_marks c_Regions_marks k_Regions_marks, F_Regions_twin := fun_mk (st := s_Regions_twin) l_Regions_twin c_Regions_twin k_Regions_twin, F_RegionsU_eqU := fun_mk (st := s_RegionsU_eqU) l_RegionsU_eqU c_RegionsU_eqU k_RegionsU_eqU, F_RegionsU_neU := fun_mk (st := s_RegionsU_neU) l_RegionsU_neU c_RegionsU_neU k_RegionsU_neU, F__law_well := fun_mk (st := s__law_well) l__law_well c__law_well k__law_well, g__law_well := PySem.W.mg_of X G a__law_well, F__law_draw := fun_mk (st := s__law_draw) l__law_draw c__law_draw k__law_draw, g__law_draw := PySem.W.mg_of X G a__law_draw, F__law_step := fun_mk (st := s__law_step) l__law_step c__law_step k__law_step, g__law_step := PySem.W.mg_of X G a__law_step, F__law_shows := fun_mk (st := s__law_shows) l__law_shows c__law_shows k__law_shows, g__law_shows := PySem.W.mg_of X G a__law_shows, F_law := fun_mk (st := s_law) l_law c_law k_law, M_RegionsU_eqU := ⟨a_RegionsU_eqU, i_RegionsU_eqU, k_RegionsU_eqU⟩, M_RegionsU_neU := ⟨a_RegionsU_neU, i_RegionsU_neU, k_RegionsU_neU⟩, M_Regions_back := ⟨a_Regions_back, i_Regions_back, k_Regions_back⟩, M_Regions_mark := ⟨a_Regions_mark, i_Regions_mark, k_Regions_mark⟩, M_Regions_marks := ⟨a_Regions_marks, i_Regions_marks, k_Regions_marks⟩, M_Regions_take := ⟨a_Regions_take, i_Regions_take, k_Regions_take⟩, M_Regions_top := ⟨a_Regions_top, i_Regions_top, k_Regions_top⟩, M_Regions_twin := ⟨a_Regions_twin, i_Regions_twin, k_Regions_twin⟩, c_Regions := ⟨pg_Regions, hd_Regions, po_Regions, sa_Regions⟩, i_Regions := ⟨⟨pg_Regions, hd_Regions, po_Regions, sa_Regions⟩, ha_Regions, hn_Regions, tk_Regions, hm_Regions⟩, g_Regions := PySem.W.mg_of X G aC_Regions, K_Regions := ⟨mk_Regions, a_RegionsU_initU, i_RegionsU_initU, kc_Regions⟩, n_Regions_end := n_Regions_end, n_Regions_ends := n_Regions_ends, n_Regions_n := n_Regions_n, g_MOST_CELLS := PySem.W.mg_of X G gv_MOST_CELLS, r_MOST_CELLS := ⟨_, rfl⟩, z_abs := PySem.W.mg_none_of X G z_abs, z_int := PySem.W.mg_none_of X G z_int, z_isinstance := PySem.W.mg_none_of X G z_isinstance, z_len := PySem.W.mg_none_of X G z_len, z_list := PySem.W.mg_none_of X G z_list, z_max := PySem.W.mg_none_of X G z_max, z_min := PySem.W.mg_none_of X G z_min, z_range := PySem.W.mg_none_of X G z_range, z_repr := PySem.W.mg_none_of X G z_repr, z_tuple := PySem.W.mg_none_of X G z_tuple, z_zip := PySem.W.mg_none_of X G z_zip, q_list := Hz.kit_type ic_Regions ty_Regions u_list_Regions, q_none := Hz.kit_type ic_Regions ty_Regions u_NoneType_Regions, s_list := s_list, s_none := s_none }
  exact ⟨PySem.W.fnOf "law" "law" (defArgs s_law) (defBody s_law) (defScope s_law) .none kV_law dc_law pm_law an_law cd_law ct_law, fun s v => .of_eq rfl, fun base _ _ => ok_law T⟩
end K64
open PySem PySem.W PyProof.Rows
set_option maxRecDepth 100000 in
set_option maxHeartbeats 0 in
theorem PySem.Challenge.cw_heapworks_k64_regions_and_marks_holds : PySem.Challenge.rw_heapworks_k64_regions_and_marks.Holds := by
  w_on; o_law; k_head; (case hw => w_witness2)
  k_fill
  refine Hz.walkG (l := PySem.Challenge.rw_heapworks_k64_regions_and_marks) (n := 63) (k := 5) (inv := Hz.wellO) (x := "script") rfl (by decide) rfl ⟨rfl, by decide, by decide⟩ (fun w h Y => PySem.W.kIn_of Y) ?F
  case F =>
    intro w mg fa h KX G hmg
    refine' K64.all_mk KX G hmg ?aC_Regions ?a_need_number ?l_need_number ?c_need_number ?k_need_number ?a_RegionsU_initU ?i_RegionsU_initU ?l_RegionsU_initU ?c_RegionsU_initU ?k_RegionsU_initU ?a_Regions_take ?i_Regions_take ?l_Regions_take ?c_Regions_take ?k_Regions_take ?a_Regions_mark ?i_Regions_mark ?l_Regions_mark ?c_Regions_mark ?k_Regions_mark ?a_Regions_back ?i_Regions_back ?l_Regions_back ?c_Regions_back ?k_Regions_back ?a_Regions_top ?i_Regions_top ?l_Regions_top ?c_Regions_top ?k_Regions_top ?a_Regions_marks ?i_Regions_marks ?l_Regions_marks ?c_Regions_marks ?k_Regions_marks ?a_Regions_twin ?i_Regions_twin ?l_Regions_twin ?c_Regions_twin ?k_Regions_twin ?a_RegionsU_eqU ?i_RegionsU_eqU ?l_RegionsU_eqU ?c_RegionsU_eqU ?k_RegionsU_eqU ?a_RegionsU_neU ?i_RegionsU_neU ?l_RegionsU_neU ?c_RegionsU_neU ?k_RegionsU_neU ?a__law_well ?l__law_well ?c__law_well ?k__law_well ?a__law_draw ?l__law_draw ?c__law_draw ?k__law_draw ?a__law_step ?l__law_step ?c__law_step ?k__law_step ?a__law_shows ?l__law_shows ?c__law_shows ?k__law_shows ?a_law ?l_law ?c_law ?k_law ?pg_Regions ?hd_Regions ?po_Regions ?sa_Regions ?ha_Regions ?hn_Regions ?tk_Regions ?hm_Regions ?mk_Regions ?kc_Regions ?n_Regions_end ?n_Regions_ends ?n_Regions_n ?gv_MOST_CELLS ?z_abs ?z_int ?z_isinstance ?z_len ?z_list ?z_max ?z_min ?z_range ?z_repr ?z_tuple ?z_zip ?ic_Regions ?ty_Regions ?u_list_Regions ?u_NoneType_Regions ?s_list ?s_none
    (case aC_Regions => k_is)
    (case a_need_number => k_is)
    (case l_need_number => k_is)
    (case c_need_number => k_is)
    (case k_need_number => k_is)
    (case a_RegionsU_initU => k_is)
    (case i_RegionsU_initU => k_is)
    (case l_RegionsU_initU => k_is)
    (case c_RegionsU_initU => k_is)
    (case k_RegionsU_initU => k_is)
    (case a_Regions_take => k_is)
    (case i_Regions_take => k_is)
    (case l_Regions_take => k_is)
    (case c_Regions_take => k_is)
    (case k_Regions_take => k_is)
    (case a_Regions_mark => k_is)
    (case i_Regions_mark => k_is)
    (case l_Regions_mark => k_is)
    (case c_Regions_mark => k_is)
    (case k_Regions_mark => k_is)
    (case a_Regions_back => k_is)
    (case i_Regions_back => k_is)
    (case l_Regions_back => k_is)
    (case c_Regions_back => k_is)
    (case k_Regions_back => k_is)
    (case a_Regions_top => k_is)
    (case i_Regions_top => k_is)
    (case l_Regions_top => k_is)
    (case c_Regions_top => k_is)
    (case k_Regions_top => k_is)
    (case a_Regions_marks => k_is)
    (case i_Regions_marks => k_is)
    (case l_Regions_marks => k_is)
    (case c_Regions_marks => k_is)
    (case k_Regions_marks => k_is)
    (case a_Regions_twin => k_is)
    (case i_Regions_twin => k_is)
    (case l_Regions_twin => k_is)
    (case c_Regions_twin => k_is)
    (case k_Regions_twin => k_is)
    (case a_RegionsU_eqU => k_is)
    (case i_RegionsU_eqU => k_is)
    (case l_RegionsU_eqU => k_is)
    (case c_RegionsU_eqU => k_is)
    (case k_RegionsU_eqU => k_is)
    (case a_RegionsU_neU => k_is)
    (case i_RegionsU_neU => k_is)
    (case l_RegionsU_neU => k_is)
    (case c_RegionsU_neU => k_is)
    (case k_RegionsU_neU => k_is)
    (case a__law_well => k_is)
    (case l__law_well => k_is)
    (case c__law_well => k_is)
    (case k__law_well => k_is)
    (case a__law_draw => k_is)
    (case l__law_draw => k_is)
    (case c__law_draw => k_is)
    (case k__law_draw => k_is)
    (case a__law_step => k_is)
    (case l__law_step => k_is)
    (case c__law_step => k_is)
    (case k__law_step => k_is)
    (case a__law_shows => k_is)
    (case l__law_shows => k_is)
    (case c__law_shows => k_is)
    (case k__law_shows => k_is)
    (case a_law => k_is)
    (case l_law => k_is)
    (case c_law => k_is)
    (case k_law => k_is)
    (case pg_Regions => k_is)
    (case hd_Regions => k_is)
    (case po_Regions => k_is)
    (case sa_Regions => k_is)
    (case ha_Regions => k_is)
    (case hn_Regions => k_is)
    (case tk_Regions => k_is)
    (case hm_Regions => k_is)
    (case mk_Regions => k_is)
    (case kc_Regions => k_is)
    (case n_Regions_end => k_is)
    (case n_Regions_ends => k_is)
    (case n_Regions_n => k_is)
    (case gv_MOST_CELLS => k_is)
    (case z_abs => k_is)
    (case z_int => k_is)
    (case z_isinstance => k_is)
    (case z_len => k_is)
    (case z_list => k_is)
    (case z_max => k_is)
    (case z_min => k_is)
    (case z_range => k_is)
    (case z_repr => k_is)
    (case z_tuple => k_is)
    (case z_zip => k_is)
    (case ic_Regions => k_is)
    (case ty_Regions => k_is)
    (case u_list_Regions => k_is)
    (case u_NoneType_Regions => k_is)
    (case s_list => k_is)
    (case s_none => k_is)

