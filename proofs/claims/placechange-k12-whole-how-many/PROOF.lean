import PyProof.Rows.All
import Wide.All
import OpenK.AllK
import Wide.FinOn
import HandS.ForMost
import HandS.Exc
import HandS.TryOnly
import HandS.ExcOwn
import HandS.WordsExc
import HandS.Deep
import HandS.Style
import HandS.IsInst
import HandS.Conv
import HandS.TupSets
import HandS.SetFor
import HandS.ExcIs
import HandS.SortKw
import KE.KMinKey
import HandS.Strs
import PySem.Challenge.RW_placechange_k12_whole_how_many
section
set_option Elab.async false
set_option linter.all false
set_option maxRecDepth 100000
set_option autoImplicit false
set_option maxHeartbeats 4000000
/-! A value layer over HandS: python values as data, a frame as a list of slots. -/
namespace VL
open PySem PySem.Spec PyProof.Rows L2

/-! ### slots, results -/
/-- an object in its own region -/
inductive OB where
  | dct (kvs : List (List Int × Int))
  | dpin (p : Addr) (kvs : List (List Int × Int))
inductive Slot where
  | no
  | fz (d : PyData)
  | ow (ds : List PyData)
  | hd (ds : List PyData)
  | rg (d : PyData)
  | ob (o : OB)
  | sf (d : PyData)
abbrev Ev := List Slot
abbrev Sg := L2.St
inductive Res (α : Type) where
  | ok (a : α)
  | ex (c : Str)
  | no
def Res.bind {α β : Type} (x : Res α) (f : α → Res β) : Res β := match x with
  | .ok a => f a
  | .ex c => .ex c
  | .no => .no
@[simp] theorem bind_ok {α β : Type} (a : α) (f : α → Res β) : (Res.ok a).bind f = f a := rfl
@[simp] theorem bind_ex {α β : Type} (c : Str) (f : α → Res β) : (Res.ex c : Res α).bind f = .ex c := rfl
@[simp] theorem bind_no {α β : Type} (f : α → Res β) : (Res.no : Res α).bind f = .no := rfl
inductive Out where
  | nx (e : Ev)
  | rt (d : PyData)
  | rl (ds : List PyData)
  | rg (d : PyData)
  | bk (e : Ev)
  | ct (e : Ev)
  | ex (c : Str) (e : Ev)
  | rs (e : Ev) (d : PyData)
  | no

/-! ### what a value is worth in a heap -/
section
variable (K : PySem.W.Frag) (mg : Str → Option Value) (H : Hp)
mutual
inductive Rp : V → PyData → Prop
  | non : Rp .non .none
  | bl (b : Bool) : Rp (.bl b) (.bool b)
  | int (i : Int) : Rp (.int i) (.int i)
  | str (x : Str) : Rp (.str x) (.str x)
  | lst {a : Addr} {xs : List V} {ds : List PyData} : H a = some (.lst xs) → RpA xs ds → Rp (.ref a) (.list ds)
  | tup {a : Addr} {xs : List V} {ds : List PyData} : H a = some (.tup xs) → RpA xs ds → Rp (.ref a) (.tuple ds)
  | ins {a C dx : Addr} {fs : List (Str × V)} {c : Str} {gs : List (Str × PyData)} : H a = some (.ins C dx fs) → mg c = some (.ref C) → fs.map (·.1) = gs.map (·.1) →
      RpA (fs.map (·.2)) (gs.map (·.2)) → Rp (.ref a) (.dict ((.none, .str c) :: gs.map fun p => (.str p.1, p.2)))
  | scr {a : Addr} {ns : List Int} : SqL K H a (ns.map V.int) → Rp (.ref a) (.dict [(.bool true, .list (ns.map .int))])
inductive RpA : List V → List PyData → Prop
  | nil : RpA [] []
  | cons {v : V} {vs : List V} {d : PyData} {ds : List PyData} : Rp v d → RpA vs ds → RpA (v :: vs) (d :: ds)
end
end
abbrev insD (c : Str) (gs : List (Str × PyData)) : PyData := .dict ((.none, .str c) :: gs.map fun p => (.str p.1, p.2))
abbrev scrD (ns : List Int) : PyData := .dict [(.bool true, .list (ns.map .int))]

section
variable {K : PySem.W.Frag} {mg : Str → Option Value} {F F' H H' : Hp}
mutual
theorem Rp.mono (s : Same H H') : ∀ {v : V} {d : PyData}, Rp K mg H v d → Rp K mg H' v d
  | _, _, .non => .non
  | _, _, .bl b => .bl b
  | _, _, .int i => .int i
  | _, _, .str x => .str x
  | _, _, .lst h a => .lst (s _ _ h) (RpA.mono s a)
  | _, _, .tup h a => .tup (s _ _ h) (RpA.mono s a)
  | _, _, .ins h m e a => .ins (s _ _ h) m e (RpA.mono s a)
  | _, _, .scr h => .scr (s.seq h)
theorem RpA.mono (s : Same H H') : ∀ {vs : List V} {ds : List PyData}, RpA K mg H vs ds → RpA K mg H' vs ds
  | _, _, .nil => .nil
  | _, _, .cons h t => .cons (Rp.mono s h) (RpA.mono s t)
end
def flatD : PyData → Bool
  | .none => true
  | .bool _ => true
  | .int _ => true
  | .str _ => true
  | _ => false
theorem Rp.flat {v : V} {d : PyData} (h : Rp K mg H v d) (f : flatD d = true) : Rp K mg H' v d := by
  cases h with
  | non => exact .non
  | bl b => exact .bl b
  | int i => exact .int i
  | str x => exact .str x
  | lst _ _ => cases f
  | tup _ _ => cases f
  | ins _ _ _ _ => cases f
  | scr _ => cases f
theorem RpA.flat : ∀ {vs : List V} {ds : List PyData}, RpA K mg H vs ds → ds.all flatD = true → RpA K mg H' vs ds
  | _, _, .nil, _ => .nil
  | _, _, .cons h t, f => by
    rw [List.all_cons, Bool.and_eq_true] at f
    exact .cons (h.flat f.1) (RpA.flat t f.2)
theorem RpA.len : ∀ {vs : List V} {ds : List PyData}, RpA K mg H vs ds → vs.length = ds.length
  | _, _, .nil => rfl
  | _, _, .cons _ t => by rw [List.length_cons, List.length_cons, RpA.len t]
theorem RpA.app : ∀ {vs ws : List V} {ds es : List PyData}, RpA K mg H vs ds → RpA K mg H ws es → RpA K mg H (vs ++ ws) (ds ++ es)
  | _, _, _, _, .nil, h => h
  | _, _, _, _, .cons h t, q => .cons h (RpA.app t q)
theorem RpA.take : ∀ {vs : List V} {ds : List PyData} (n : Nat), RpA K mg H vs ds → RpA K mg H (vs.take n) (ds.take n)
  | _, _, 0, _ => .nil
  | _, _, _ + 1, .nil => .nil
  | _, _, n + 1, .cons h t => .cons h (RpA.take n t)
theorem RpA.drop : ∀ {vs : List V} {ds : List PyData} (n : Nat), RpA K mg H vs ds → RpA K mg H (vs.drop n) (ds.drop n)
  | _, _, 0, h => h
  | _, _, _ + 1, .nil => .nil
  | _, _, n + 1, .cons _ t => RpA.drop n t
theorem RpA.get : ∀ {vs : List V} {ds : List PyData} {i : Nat} {d : PyData}, RpA K mg H vs ds → ds[i]? = some d → ∃ v, vs[i]? = some v ∧ Rp K mg H v d
  | _, _, _, _, .nil, e => by simp at e
  | _, _, 0, _, .cons h _, e => by
    simp at e
    subst e
    exact ⟨_, rfl, h⟩
  | _, _, i + 1, d, .cons _ t, e => by
    obtain ⟨v, h1, h2⟩ := RpA.get (i := i) (d := d) t (by simpa using e)
    exact ⟨v, by simpa using h1, h2⟩
theorem RpA.getV : ∀ {vs : List V} {ds : List PyData} {i : Nat} {v : V}, RpA K mg H vs ds → vs[i]? = some v → ∃ d, ds[i]? = some d ∧ Rp K mg H v d
  | _, _, _, _, .nil, e => by simp at e
  | _, _, 0, _, .cons h _, e => by
    simp at e
    subst e
    exact ⟨_, rfl, h⟩
  | _, _, i + 1, d, .cons _ t, e => by
    obtain ⟨v, h1, h2⟩ := RpA.getV (i := i) (v := d) t (by simpa using e)
    exact ⟨v, by simpa using h1, h2⟩
theorem RpA.rev : ∀ {vs : List V} {ds : List PyData}, RpA K mg H vs ds → RpA K mg H vs.reverse ds.reverse
  | _, _, .nil => .nil
  | _, _, .cons h t => by
    rw [List.reverse_cons, List.reverse_cons]
    exact (RpA.rev t).app (.cons h .nil)
theorem RpA.set {v : V} {d : PyData} (h : Rp K mg H v d) : ∀ {vs : List V} {ds : List PyData} (i : Nat), RpA K mg H vs ds → RpA K mg H (vs.set i v) (ds.set i d)
  | _, _, _, .nil => .nil
  | _, _, 0, .cons _ t => .cons h t
  | _, _, i + 1, .cons q t => .cons q (RpA.set h i t)
theorem RpA.erase : ∀ {vs : List V} {ds : List PyData} (i : Nat), RpA K mg H vs ds → RpA K mg H (vs.eraseIdx i) (ds.eraseIdx i)
  | _, _, _, .nil => .nil
  | _, _, 0, .cons _ t => t
  | _, _, i + 1, .cons q t => .cons q (RpA.erase i t)
theorem RpA.ints : ∀ {vs : List V} {ns : List Int}, RpA K mg H vs (ns.map .int) → vs = ns.map V.int
  | _, [], h => by cases h; rfl
  | _, n :: ns, h => by
    cases h with
    | cons h t =>
      cases h
      rw [RpA.ints t]
      rfl
theorem RpA.of_ints : ∀ (ns : List Int), RpA K mg H (ns.map V.int) (ns.map .int)
  | [] => .nil
  | n :: ns => .cons (.int n) (RpA.of_ints ns)
mutual
theorem Rp.dp : ∀ {v : V} {d : PyData}, Rp K mg H v d → d.canLay0 = true → Dp K H v d
  | _, _, .non, _ => .non
  | _, _, .bl b, _ => .bl b
  | _, _, .int i, _ => .int i
  | _, _, .str x, _ => .str x
  | _, _, .lst h a, c => .lst (SqL.of h) (RpA.dp a (by simpa only [PyData.canLay0] using c))
  | _, _, .tup h a, c => .tup (SqT.of h) (RpA.dp a (by simpa only [PyData.canLay0] using c))
  | _, _, .ins _ _ _ _, c => by simp [PyData.canLay0] at c
  | _, _, .scr _, c => by simp [PyData.canLay0] at c
theorem RpA.dp : ∀ {vs : List V} {ds : List PyData}, RpA K mg H vs ds → PyData.canLayAll0 ds = true → DpAll K H vs ds
  | _, _, .nil, _ => .nil
  | _, _, .cons h t, c => by
    simp only [PyData.canLayAll0, Bool.and_eq_true] at c
    exact .cons (Rp.dp h c.1) (RpA.dp t c.2)
end
end

/-! ### what a value owns -/
section
variable (K : PySem.W.Frag) (mg : Str → Option Value) (r : Hp)
mutual
inductive Rf : V → PyData → List Addr → Prop
  | flat {v : V} {d : PyData} : flatD d = true → Rp K mg r v d → Rf v d []
  | lst {a : Addr} {xs : List V} {ds : List PyData} {as : List Addr} : r a = some (.lst xs) → RfA xs ds as → Rf (.ref a) (.list ds) (a :: as)
  | tup {a : Addr} {xs : List V} {ds : List PyData} {as : List Addr} : r a = some (.tup xs) → RfA xs ds as → Rf (.ref a) (.tuple ds) (a :: as)
  | ins {a C dx : Addr} {fs : List (Str × V)} {c : Str} {gs : List (Str × PyData)} {as : List Addr} : r a = some (.ins C dx fs) → mg c = some (.ref C) → fs.map (·.1) = gs.map (·.1) →
      RfA (fs.map (·.2)) (gs.map (·.2)) as → Rf (.ref a) (insD c gs) (a :: as)
inductive RfA : List V → List PyData → List Addr → Prop
  | nil : RfA [] [] []
  | cons {v : V} {vs : List V} {d : PyData} {ds : List PyData} {as bs : List Addr} : Rf v d as → RfA vs ds bs → RfA (v :: vs) (d :: ds) (as ++ bs)
end
def Own (v : V) (d : PyData) : Prop := ∃ as : List Addr, as.Nodup ∧ Rf K mg r v d as
end
section
variable {K : PySem.W.Frag} {mg : Str → Option Value} {r r' : Hp}
mutual
theorem Rf.rp : ∀ {v : V} {d : PyData} {as : List Addr}, Rf K mg r v d as → Rp K mg r v d
  | _, _, _, .flat _ h => h
  | _, _, _, .lst h a => .lst h (RfA.rp a)
  | _, _, _, .tup h a => .tup h (RfA.rp a)
  | _, _, _, .ins h m e a => .ins h m e (RfA.rp a)
theorem RfA.rp : ∀ {vs : List V} {ds : List PyData} {as : List Addr}, RfA K mg r vs ds as → RpA K mg r vs ds
  | _, _, _, .nil => .nil
  | _, _, _, .cons h t => .cons (Rf.rp h) (RfA.rp t)
end
mutual
theorem Rf.frame : ∀ {v : V} {d : PyData} {as : List Addr}, Rf K mg r v d as → (∀ a, a ∈ as → r' a = r a) → Rf K mg r' v d as
  | _, _, _, .flat f h, _ => .flat f (h.flat f)
  | _, _, _, .lst h a, e => .lst ((e _ List.mem_cons_self).trans h) (RfA.frame a fun b hb => e b (List.mem_cons_of_mem _ hb))
  | _, _, _, .tup h a, e => .tup ((e _ List.mem_cons_self).trans h) (RfA.frame a fun b hb => e b (List.mem_cons_of_mem _ hb))
  | _, _, _, .ins h m g a, e => .ins ((e _ List.mem_cons_self).trans h) m g (RfA.frame a fun b hb => e b (List.mem_cons_of_mem _ hb))
theorem RfA.frame : ∀ {vs : List V} {ds : List PyData} {as : List Addr}, RfA K mg r vs ds as → (∀ a, a ∈ as → r' a = r a) → RfA K mg r' vs ds as
  | _, _, _, .nil, _ => .nil
  | _, _, _, .cons h t, e => .cons (Rf.frame h fun b hb => e b (List.mem_append_left _ hb)) (RfA.frame t fun b hb => e b (List.mem_append_right _ hb))
end
mutual
theorem Rf.has : ∀ {v : V} {d : PyData} {as : List Addr}, Rf K mg r v d as → ∀ a, a ∈ as → r a ≠ none
  | _, _, _, .flat _ _, _, h => by simp at h
  | _, _, _, .lst h t, b, hb => by
    rcases List.mem_cons.mp hb with rfl | hb
    · rw [h]; intro q; cases q
    · exact RfA.has t b hb
  | _, _, _, .tup h t, b, hb => by
    rcases List.mem_cons.mp hb with rfl | hb
    · rw [h]; intro q; cases q
    · exact RfA.has t b hb
  | _, _, _, .ins h _ _ t, b, hb => by
    rcases List.mem_cons.mp hb with rfl | hb
    · rw [h]; intro q; cases q
    · exact RfA.has t b hb
theorem RfA.has : ∀ {vs : List V} {ds : List PyData} {as : List Addr}, RfA K mg r vs ds as → ∀ a, a ∈ as → r a ≠ none
  | _, _, _, .nil, _, h => by simp at h
  | _, _, _, .cons h t, b, hb => by
    rcases List.mem_append.mp hb with hb | hb
    · exact Rf.has h b hb
    · exact RfA.has t b hb
end
theorem Own.rp {v : V} {d : PyData} (h : Own K mg r v d) : Rp K mg r v d := by
  obtain ⟨_, _, h⟩ := h
  exact h.rp
theorem Own.mono {v : V} {d : PyData} (s : Same r r') (h : Own K mg r v d) : Own K mg r' v d := by
  obtain ⟨as, n, h⟩ := h
  refine ⟨as, n, h.frame fun a ha => ?_⟩
  have := h.has a ha
  cases hr : r a with
  | none => exact absurd hr this
  | some o => exact s _ _ hr
theorem RfA.flat : ∀ {vs : List V} {ds : List PyData}, RpA K mg r' vs ds → ds.all flatD = true → RfA K mg r vs ds []
  | _, _, .nil, _ => .nil
  | _, _, .cons h t, f => by
    rw [List.all_cons, Bool.and_eq_true] at f
    exact .cons (.flat f.1 (h.flat f.1)) (RfA.flat t f.2)
/-- one of the items, and another one in its place -/
theorem RfA.lens : ∀ {vs : List V} {ds : List PyData} {bs : List Addr} {i : Nat} {w : V}, RfA K mg r vs ds bs → vs[i]? = some w →
    ∃ dw b1 bw b2, ds[i]? = some dw ∧ bs = b1 ++ (bw ++ b2) ∧ Rf K mg r w dw bw ∧ ∀ r' w' dw' bw', Rf K mg r' w' dw' bw' → (∀ a, a ∈ b1 ++ b2 → r' a = r a) → RfA K mg r' (vs.set i w') (ds.set i dw') (b1 ++ (bw' ++ b2))
  | _, _, _, i, w, .nil, h => by simp at h
  | _, _, _, 0, w, .cons (v := v) (d := d) (as := as) (bs := bs) h t, e => by
    simp at e
    subst e
    refine ⟨d, [], as, bs, rfl, rfl, h, fun r' w' dw' bw' h' k => ?_⟩
    rw [List.nil_append]
    exact .cons h' (t.frame fun a ha => k a ha)
  | _, _, _, i + 1, w, .cons (v := v) (vs := vs) (d := d) (ds := ds) (as := as) (bs := bs) h t, e => by
    obtain ⟨dw, b1, bw, b2, e1, e2, h1, k1⟩ := RfA.lens (i := i) (w := w) t (by simpa using e)
    refine ⟨dw, as ++ b1, bw, b2, by simpa using e1, by rw [e2, List.append_assoc], h1, fun r' w' dw' bw' h' k => ?_⟩
    rw [List.append_assoc] at k ⊢
    rw [List.set_cons_succ, List.set_cons_succ]
    exact .cons (h.frame fun a ha => k a (List.mem_append_left _ ha)) (k1 r' w' dw' bw' h' fun a ha => k a (List.mem_append_right _ ha))
theorem RfA.snoc : ∀ {vs : List V} {ds : List PyData} {bs cs : List Addr} {w : V} {d : PyData}, RfA K mg r vs ds bs → Rf K mg r w d cs → RfA K mg r (vs ++ [w]) (ds ++ [d]) (bs ++ cs)
  | _, _, _, cs, w, d, .nil, h => by
    have := RfA.cons h (RfA.nil (K := K) (mg := mg) (r := r))
    rw [List.append_nil] at this
    exact this
  | _, _, _, cs, w, d, .cons h0 t, h => by
    rw [List.append_assoc]
    exact .cons h0 (t.snoc h)
end

/-! ### the frame -/
inductive Ix where
  | base
  | sl (i : Nat)
  | hid (a : Addr)
  deriving DecidableEq
def one (p : Addr) (o : HO) : Hp := fun a => if a = p then some o else none
theorem one_same {p : Addr} {o : HO} : one p o p = some o := by unfold one; rw [if_pos rfl]
theorem one_at {p a : Addr} {o u : HO} (h : one p o a = some u) : a = p ∧ u = o := by
  unfold one at h
  split at h
  · exact ⟨by assumption, (Option.some.inj h).symm⟩
  · cases h
theorem one_ne {p a : Addr} {o : HO} (h : one p o a ≠ none) : a = p := by
  unfold one at h
  split at h
  · assumption
  · exact absurd rfl h
def dctV (kvs : List (List Int × Int)) : List (List Key × V) := kvs.map fun q => (q.1.map Sum.inl, .int q.2)
def ObOk (K : PySem.W.Frag) (mg : Str → Option Value) (r : Hp) (v : V) : OB → Prop
  | .dct kvs => ∃ p, v = .ref p ∧ r = one p (.dT (dctV kvs))
  | .dpin p kvs => v = .ref p ∧ r = one p (.dT (dctV kvs))
def SlotOk (K : PySem.W.Frag) (mg : Str → Option Value) (lk : Nat → Option (Addr × List V)) (F r : Hp) (x : Option (Option V)) (i : Nat) : Slot → Prop
  | .no => True
  | .fz d => ∃ v, x = some (some v) ∧ Rp K mg F v d
  | .ow ds => ∃ p vs, x = some (some (.ref p)) ∧ r = one p (.lst vs) ∧ RpA K mg F vs ds
  | .hd ds => ∃ p vs, lk i = some (p, vs) ∧ x = some (some (.ref p)) ∧ r = one p (.lst vs) ∧ RpA K mg F vs ds
  | .rg d => ∃ v, x = some (some v) ∧ Own K mg r v d
  | .ob o => ∃ v, x = some (some v) ∧ ObOk K mg r v o
  | .sf d => ∃ p vs, lk i = some (p, vs) ∧ x = some (some (.ref p)) ∧ Own K mg r (.ref p) d
structure SR (K : PySem.W.Frag) (mg : Str → Option Value) (lk : Nat → Option (Addr × List V)) (F : Hp) (R : Ix → Hp) (σ : Sg) (H : Hp) (e : Ev) : Prop where
  len : e.length = σ.length
  fh : Same F H
  rh : ∀ j, Same (R j) H
  rr : ∀ j k a, j ≠ k → R j a ≠ none → R k a = none
  rf : ∀ j a, R j a ≠ none → F a = none
  hid : ∀ D a, R (.hid D) a ≠ none → a = D
  at_ : ∀ i s, e[i]? = some s → SlotOk K mg lk F (R (.sl i)) σ[i]? i s
theorem SlotOk.mono {K : PySem.W.Frag} {mg : Str → Option Value} {lk : Nat → Option (Addr × List V)} {F F' r : Hp} {x : Option (Option V)} {i : Nat} {s : Slot} (f : Same F F') (h : SlotOk K mg lk F r x i s) : SlotOk K mg lk F' r x i s := by
  cases s with
  | no => trivial
  | fz d =>
    obtain ⟨v, e, q⟩ := h
    exact ⟨v, e, q.mono f⟩
  | ow ds =>
    obtain ⟨p, vs, e, q, z⟩ := h
    exact ⟨p, vs, e, q, z.mono f⟩
  | hd ds =>
    obtain ⟨p, vs, l, e, q, z⟩ := h
    exact ⟨p, vs, l, e, q, z.mono f⟩
  | rg d => exact h
  | ob o => exact h
  | sf d => exact h
section
variable {K : PySem.W.Frag} {mg : Str → Option Value} {lk : Nat → Option (Addr × List V)} {F F' H H' : Hp} {R : Ix → Hp} {σ : Sg} {e : Ev}
theorem nn_some {α : Type} {x : Option α} (h : x ≠ none) : ∃ y, x = some y := by
  cases x with
  | none => exact absurd rfl h
  | some y => exact ⟨y, rfl⟩
theorem SR.heap (s : SR K mg lk F R σ H e) (h : Same H H') : SR K mg lk F R σ H' e :=
  ⟨s.len, s.fh.trans h, fun j => (s.rh j).trans h, s.rr, s.rf, s.hid, s.at_⟩
/-- what is new to the heap is new to all its parts -/
theorem SR.newF (s : SR K mg lk F R σ H e) {p : Addr} (n : H p = none) : F p = none := s.fh.free n
theorem SR.newR (s : SR K mg lk F R σ H e) {p : Addr} (n : H p = none) (j : Ix) : R j p = none := (s.rh j).free n
theorem same_upd {H : Hp} {p : Addr} {o : HO} (n : H p = none) : Same H (upd H p o) := fun b u q => by
  rw [upd_ne (ne_of_none q n)]
  exact q
/-- an object that no part holds goes to what stands still -/
theorem SR.keep (s : SR K mg lk F R σ H e) {p : Addr} {o : HO} (h : H p = some o) (nf : F p = none) (nr : ∀ j, R j p = none) : SR K mg lk (upd F p o) R σ H e where
  len := s.len
  fh := fun b u q => by
    by_cases hb : b = p
    · subst hb
      rw [upd_same] at q
      cases q
      exact h
    · rw [upd_ne hb] at q
      exact s.fh _ _ q
  rh := s.rh
  rr := s.rr
  rf := fun j a q => by
    by_cases hb : a = p
    · subst hb
      exact absurd (nr j) q
    · rw [upd_ne hb]
      exact s.rf j a q
  hid := s.hid
  at_ := fun i x q => (s.at_ i x q).mono (same_upd nf)
end

/-! ### readings by data -/
abbrev Post (β α : Type) := (Ix → Hp) → Hp → Hp → β → α → Prop
def Stable {β α : Type} (post : Post β α) : Prop := ∀ R F F' H H' v a, Same F F' → Same H H' → post R F H v a → post R F' H' v a
section
variable (K : PySem.W.Frag) (mg : Str → Option Value) (W : WX)
def resOk {β α : Type} (lk : Nat → Option (Addr × List V)) (F : Hp) (R : Ix → Hp) (σ : Sg) (H : Hp) (e : Ev) (post : Post β α) (Q : β → Hp → Prop) : Res α → Prop
  | .ok a => ∀ v H' F', Same F F' → Same H H' → SR K mg lk F' R σ H' e → post R F' H' v a → Q v H'
  | .ex c => ∀ C H' F', mg c = some (.ref C) → Same F F' → Same H H' → SR K mg lk F' R σ H' e → W (.ref C) none σ H'
  | .no => False
def tX {β α : Type} (post : Post β α) (f : Ev → Res α) : Sg → Hp → (β → Hp → Prop) → Prop := fun σ H Q =>
  ∃ e lk F R, SR K mg lk F R σ H e ∧ resOk K mg W lk F R σ H e post Q (f e)
def pE : Post V PyData := fun _ F _ v d => Rp K mg F v d
def Us (F H : Hp) (v : V) (d : PyData) : Prop := Rp K mg F v d ∨ ∃ p vs ds, v = .ref p ∧ d = .list ds ∧ H p = some (.lst vs) ∧ RpA K mg F vs ds
def pU : Post V PyData := fun _ F H v d => Us K mg F H v d
def pB : Post V PyData := fun _ _ H v d => Rp K mg H v d
def pF : Post V (List PyData) := fun R F H v ds => ∃ p vs, v = .ref p ∧ H p = some (.lst vs) ∧ F p = none ∧ (∀ j, R j p = none) ∧ RpA K mg F vs ds
def pT : Post Bool Bool := fun _ _ _ v b => v = b
def pA (pre : Post V PyData) : Post (List V) (List PyData) := fun R F H vs ds => Paired (fun v d => pre R F H v d) vs ds
end
section
variable {K : PySem.W.Frag} {mg : Str → Option Value} {W : WX} {lk : Nat → Option (Addr × List V)} {F F' H H' : Hp} {R : Ix → Hp} {σ : Sg} {e : Ev} {α β γ δ : Type}
theorem st_pE : Stable (pE K mg) := fun _ _ _ _ _ _ _ f _ h => Rp.mono f h
theorem st_pU : Stable (pU K mg) := fun _ _ _ _ _ _ _ f g h => by
  rcases h with h | ⟨p, vs, ds, e1, e2, h, a⟩
  · exact .inl (h.mono f)
  · exact .inr ⟨p, vs, ds, e1, e2, g _ _ h, a.mono f⟩
theorem st_pB : Stable (pB K mg) := fun _ _ _ _ _ _ _ _ g h => Rp.mono g h
theorem st_pT : Stable pT := fun _ _ _ _ _ _ _ _ _ h => h
theorem Us.rp (s : Same F H) {v : V} {d : PyData} (h : Us K mg F H v d) : Rp K mg H v d := by
  rcases h with h | ⟨p, vs, ds, rfl, rfl, h, a⟩
  · exact h.mono s
  · exact .lst h (a.mono s)
theorem resOk.up {post : Post β α} {Q : β → Hp → Prop} {r : Res α} (f : Same F F') (g : Same H H') (h : resOk K mg W lk F R σ H e post Q r) : resOk K mg W lk F' R σ H' e post Q r := by
  cases r with
  | ok a => exact fun v H2 F2 f2 g2 s p => h v H2 F2 (f.trans f2) (g.trans g2) s p
  | ex c => exact fun C H2 F2 m f2 g2 s => h C H2 F2 m (f.trans f2) (g.trans g2) s
  | no => exact h
theorem resOk.bind {post : Post β α} {post2 : Post δ γ} {Q : δ → Hp → Prop} {Q1 : β → Hp → Prop} {x : Res α} {g : α → Res γ} (h : resOk K mg W lk F R σ H e post2 Q (x.bind g))
    (k : ∀ a v H' F', Same F F' → Same H H' → SR K mg lk F' R σ H' e → post R F' H' v a → resOk K mg W lk F' R σ H' e post2 Q (g a) → Q1 v H') : resOk K mg W lk F R σ H e post Q1 x := by
  cases x with
  | ok a => exact fun v H2 F2 f2 g2 s p => k a v H2 F2 f2 g2 s p (resOk.up f2 g2 h)
  | ex c => exact h
  | no => exact h
/-- the end of a reading -/
theorem resOk.fin {post : Post β α} {Q : β → Hp → Prop} {a : α} {v : β} (h : resOk K mg W lk F R σ H e post Q (.ok a)) (s : SR K mg lk F R σ H e) (p : post R F H v a) : Q v H := h v H F (Same.refl _) (Same.refl _) s p
theorem resOk.to {post post2 : Post β α} {Q : β → Hp → Prop} {r : Res α} (h : resOk K mg W lk F R σ H e post Q r) (k : ∀ R F H v a, SR K mg lk F R σ H e → post2 R F H v a → post R F H v a) : resOk K mg W lk F R σ H e post2 Q r := by
  cases r with
  | ok a => exact fun v H2 F2 f2 g2 s p => h v H2 F2 f2 g2 s (k _ _ _ _ _ s p)
  | ex c => exact h
  | no => exact h
end
theorem _root_.L2.PE.imp {X : Cx} {x : Expr} {t t' : TE} (h : PE X x t) (k : ∀ σ H Q, t' σ H Q → t σ H Q) : PE X x t' := ⟨fun pins s σ H Q I q => h.run pins s σ H Q I (k σ H Q q)⟩
theorem _root_.L2.PT.imp {X : Cx} {x : Expr} {t t' : TT} (h : PT X x t) (k : ∀ σ H Q, t' σ H Q → t σ H Q) : PT X x t' := ⟨fun pins s σ H Q I q => h.run pins s σ H Q I (k σ H Q q)⟩
theorem _root_.L2.PW.imp {X : Cx} {x : Expr} {t t' : TT} (h : PW X x t) (k : ∀ σ H Q, t' σ H Q → t σ H Q) : PW X x t' := ⟨fun w pins s σ H Q I q => h.run w pins s σ H Q I (k σ H Q q)⟩
theorem _root_.L2.PA.imp {X : Cx} {xs : List Expr} {t t' : TA} (h : PA X xs t) (k : ∀ σ H Q, t' σ H Q → t σ H Q) : PA X xs t' := ⟨fun pos pins s σ H Q I q => h.run pos pins s σ H Q I (k σ H Q q)⟩
theorem _root_.L2.PO.imp {X : Cx} {x : Option Expr} {t t' : TO} (h : PO X x t) (k : ∀ σ H Q, t' σ H Q → t σ H Q) : PO X x t' := ⟨fun pins s σ H Q I q => h.run pins s σ H Q I (k σ H Q q)⟩
theorem _root_.L2.PS.imp {X : Cx} {x : Stmt} {t t' : TS} (h : PS X x t) (k : ∀ D σ H, t' D σ H → t D σ H) : PS X x t' := ⟨fun pins s σ H D I q => h.run pins s σ H D I (k D σ H q)⟩
theorem _root_.L2.PSs.imp {X : Cx} {x : List Stmt} {t t' : TS} (h : PSs X x t) (k : ∀ D σ H, t' D σ H → t D σ H) : PSs X x t' := ⟨fun pins s σ H D I q => h.run pins s σ H D I (k D σ H q)⟩

/-- an expression's value: what stands still | a list to be read | to be looked at | a new list; a test; arguments -/
abbrev CE (X : Cx) (W : WX) (x : Expr) (f : Ev → Res PyData) : Prop := PE X x (tX X.K X.mg W (pE X.K X.mg) f)
abbrev CU (X : Cx) (W : WX) (x : Expr) (f : Ev → Res PyData) : Prop := PE X x (tX X.K X.mg W (pU X.K X.mg) f)
abbrev CB (X : Cx) (W : WX) (x : Expr) (f : Ev → Res PyData) : Prop := PE X x (tX X.K X.mg W (pB X.K X.mg) f)
abbrev CF (X : Cx) (W : WX) (x : Expr) (f : Ev → Res (List PyData)) : Prop := PE X x (tX X.K X.mg W (pF X.K X.mg) f)
abbrev CT (X : Cx) (W : WX) (x : Expr) (f : Ev → Res Bool) : Prop := PT X x (tX X.K X.mg W pT f)
abbrev CAE (X : Cx) (W : WX) (x : List Expr) (f : Ev → Res (List PyData)) : Prop := PA X x (tX X.K X.mg W (pA (pE X.K X.mg)) f)
abbrev CAB (X : Cx) (W : WX) (x : List Expr) (f : Ev → Res (List PyData)) : Prop := PA X x (tX X.K X.mg W (pA (pB X.K X.mg)) f)

def b1 {α γ : Type} (fa : Ev → Res α) (h : α → Res γ) : Ev → Res γ := fun e => (fa e).bind h
def b2 {α β γ : Type} (fa : Ev → Res α) (fb : Ev → Res β) (h : α → β → Res γ) : Ev → Res γ := fun e => (fa e).bind fun a => (fb e).bind fun b => h a b
def okL (ds : List PyData) : Res PyData := .ok (.list ds)

section
variable {X : Cx} {W : WX} {x : Expr} {f : Ev → Res PyData}
theorem cu_e (h : CE X W x f) : CU X W x f := h.imp fun σ H Q q => by
  obtain ⟨e, lk, F, R, s, r⟩ := q
  exact ⟨e, lk, F, R, s, r.to fun _ _ _ _ _ _ p => .inl p⟩
theorem cb_u (h : CU X W x f) : CB X W x f := h.imp fun σ H Q q => by
  obtain ⟨e, lk, F, R, s, r⟩ := q
  exact ⟨e, lk, F, R, s, r.to fun _ _ _ _ _ s p => Us.rp s.fh p⟩
theorem cb_e (h : CE X W x f) : CB X W x f := cb_u (cu_e h)
/-- a new list is let stand still -/
theorem ce_f {g : Ev → Res (List PyData)} (h : CF X W x g) : CE X W x (b1 g okL) := h.imp fun σ H Q q => by
  obtain ⟨e, lk, F, R, s, r⟩ := q
  refine ⟨e, lk, F, R, s, ?_⟩
  refine resOk.bind r fun ds v H' F' f g s' p r' => ?_
  obtain ⟨p, vs, rfl, hp, nf, nr, a⟩ := p
  exact r' _ _ _ (same_upd nf) (Same.refl _) (s'.keep hp nf nr) (.lst upd_same (a.mono (same_upd nf)))
theorem cu_f {g : Ev → Res (List PyData)} (h : CF X W x g) : CU X W x (b1 g okL) := cu_e (ce_f h)
theorem cb_f {g : Ev → Res (List PyData)} (h : CF X W x g) : CB X W x (b1 g okL) := cb_u (cu_f h)

/-! ### names, constants -/
def eVar (i : Nat) : Ev → Res PyData := fun e => match e[i]? with
  | some (.fz d) => .ok d
  | _ => .no
def uVar (i : Nat) : Ev → Res PyData := fun e => match e[i]? with
  | some (.fz d) => .ok d
  | some (.ow ds) => .ok (.list ds)
  | some (.hd ds) => .ok (.list ds)
  | _ => .no
def bVar (i : Nat) : Ev → Res PyData := fun e => match e[i]? with
  | some (.fz d) => .ok d
  | some (.ow ds) => .ok (.list ds)
  | some (.hd ds) => .ok (.list ds)
  | some (.rg d) => .ok d
  | some (.sf d) => .ok d
  | _ => .no
theorem ce_var {i : Nat} (h : PE X x (tVar i)) : CE X W x (eVar i) := h.imp fun σ H Q q => by
  obtain ⟨e, lk, F, R, s, r⟩ := q
  have sa := s.at_ i
  unfold eVar at r
  cases he : e[i]? with
  | none => rw [he] at r; exact r.elim
  | some z =>
    rw [he] at r
    have sz := sa z he
    cases z with
    | fz d =>
      obtain ⟨v, hv, hr⟩ := sz
      exact ⟨v, hv, r.fin s hr⟩
    | no => exact r.elim
    | ow _ => exact r.elim
    | hd _ => exact r.elim
    | rg _ => exact r.elim
    | ob _ => exact r.elim
    | sf _ => exact r.elim
theorem cu_var {i : Nat} (h : PE X x (tVar i)) : CU X W x (uVar i) := h.imp fun σ H Q q => by
  obtain ⟨e, lk, F, R, s, r⟩ := q
  have sa := s.at_ i
  unfold uVar at r
  cases he : e[i]? with
  | none => rw [he] at r; exact r.elim
  | some z =>
    rw [he] at r
    have sz := sa z he
    cases z with
    | fz d =>
      obtain ⟨v, hv, hr⟩ := sz
      exact ⟨v, hv, r.fin s (.inl hr)⟩
    | no => exact r.elim
    | ow ds =>
      obtain ⟨p, vs, hv, hr, ha⟩ := sz
      exact ⟨_, hv, r.fin s (.inr ⟨p, vs, ds, rfl, rfl, s.rh (.sl i) _ _ (by rw [hr, one_same]), ha⟩)⟩
    | hd ds =>
      obtain ⟨p, vs, _, hv, hr, ha⟩ := sz
      exact ⟨_, hv, r.fin s (.inr ⟨p, vs, ds, rfl, rfl, s.rh (.sl i) _ _ (by rw [hr, one_same]), ha⟩)⟩
    | rg _ => exact r.elim
    | ob _ => exact r.elim
    | sf _ => exact r.elim
theorem cb_var {i : Nat} (h : PE X x (tVar i)) : CB X W x (bVar i) := h.imp fun σ H Q q => by
  obtain ⟨e, lk, F, R, s, r⟩ := q
  have sa := s.at_ i
  unfold bVar at r
  cases he : e[i]? with
  | none => rw [he] at r; exact r.elim
  | some z =>
    rw [he] at r
    have sz := sa z he
    cases z with
    | fz d =>
      obtain ⟨v, hv, hr⟩ := sz
      exact ⟨v, hv, r.fin s (hr.mono s.fh)⟩
    | no => exact r.elim
    | ow ds =>
      obtain ⟨p, vs, hv, hr, ha⟩ := sz
      exact ⟨_, hv, r.fin s (.lst (s.rh (.sl i) _ _ (by rw [hr, one_same])) (ha.mono s.fh))⟩
    | hd ds =>
      obtain ⟨p, vs, _, hv, hr, ha⟩ := sz
      exact ⟨_, hv, r.fin s (.lst (s.rh (.sl i) _ _ (by rw [hr, one_same])) (ha.mono s.fh))⟩
    | rg d =>
      obtain ⟨v, hv, hr⟩ := sz
      exact ⟨v, hv, r.fin s (hr.rp.mono (s.rh (.sl i)))⟩
    | ob _ => exact r.elim
    | sf d =>
      obtain ⟨p, vs, _, hv, hr⟩ := sz
      exact ⟨_, hv, r.fin s (hr.rp.mono (s.rh (.sl i)))⟩
def eC (d : PyData) : Ev → Res PyData := fun _ => .ok d
theorem ce_c {v : V} {d : PyData} (h : PE X x (tC v)) (p : ∀ F, Rp X.K X.mg F v d) : CE X W x (eC d) := h.imp fun σ H Q q => by
  obtain ⟨e, lk, F, R, s, r⟩ := q
  exact r.fin s (p F)
theorem ce_int {i : Int} {j pos} : CE X W (.Constant (.int i) j pos) (eC (.int i)) := ce_c pe_int fun _ => .int i
theorem ce_bl {b : Bool} {j pos} : CE X W (.Constant (.bool b) j pos) (eC (.bool b)) := ce_c pe_bl fun _ => .bl b
theorem ce_non {j pos} : CE X W (.Constant .none j pos) (eC .none) := ce_c pe_non fun _ => .non
theorem ce_str {z : Str} {j pos} : CE X W (.Constant (.str z) j pos) (eC (.str z)) := ce_c pe_str fun _ => .str z
end
end VL
end
section
set_option Elab.async false
set_option linter.all false
set_option maxRecDepth 100000
set_option autoImplicit false
set_option maxHeartbeats 4000000
/-! The value layer: operators, tests, arguments, built-ins. -/
namespace VL
open PySem PySem.Spec PyProof.Rows L2

def ofO {α : Type} : Option α → Res α
  | some a => .ok a
  | none => .no
@[simp] theorem ofO_some {α : Type} (a : α) : ofO (some a) = .ok a := rfl
@[simp] theorem ofO_none {α : Type} : ofO (none : Option α) = .no := rfl
/-- a two-place operation by data, its value flat -/
def OpFl (K : PySem.W.Frag) (mg : Str → Option Value) (r : R2) (h : PyData → PyData → Option PyData) : Prop :=
  ∀ H x y a b c, Rp K mg H x a → Rp K mg H y b → h a b = some c → ∃ z, (∀ F, Rp K mg F z c) ∧ ∀ Q : VK, Q z H → r x y H Q
section
variable {X : Cx} {W : WX} {a b c : Expr} {fa fb fc : Ev → Res PyData} {pos : Pos} {r r' : R2} {h h' : PyData → PyData → Option PyData}
theorem x_fl (hs : OpFl X.K X.mg r h) : ∀ σ H Q, tX X.K X.mg W (pE X.K X.mg) (b2 fa fb fun a b => ofO (h a b)) σ H Q → tOp r (tX X.K X.mg W (pB X.K X.mg) fa) (tX X.K X.mg W (pB X.K X.mg) fb) σ H Q := by
  intro σ H Q q
  obtain ⟨e, lk, F, R, s, q⟩ := q
  refine ⟨e, lk, F, R, s, resOk.bind q fun a v H1 F1 f1 g1 s1 p1 q1 => ?_⟩
  refine ⟨e, lk, F1, R, s1, resOk.bind q1 fun b u H2 F2 f2 g2 s2 p2 q2 => ?_⟩
  have p1' : Rp X.K X.mg H2 v a := Rp.mono g2 p1
  try dsimp only at q2
  cases hh : h a b with
  | none => rw [hh] at q2; exact q2.elim
  | some c =>
    rw [hh] at q2
    obtain ⟨z, hz, hr⟩ := hs H2 v u a b c p1' p2 hh
    exact hr Q (q2.fin s2 (hz _))
theorem ce_op {op : Operator} (ho : OpR X (binaryOp op) r) (hs : OpFl X.K X.mg r h) (ha : CB X W a fa) (hb : CB X W b fb) : CE X W (.BinOp a op b pos) (b2 fa fb fun a b => ofO (h a b)) :=
  (pe_op ho ha hb).imp (x_fl hs)
theorem ce_cmp {op : CmpOp} (ho : OpR X (compareOp op) r) (hs : OpFl X.K X.mg r h) (ha : CB X W a fa) (hb : CB X W b fb) (hm : behindInMarks op b = false) : CE X W (.Compare a [op] [b] pos) (b2 fa fb fun a b => ofO (h a b)) :=
  (pe_cmpR ho ha hb hm).imp (x_fl hs)
/-- a test out of a value -/
def asB : PyData → Res Bool
  | .bool b => .ok b
  | _ => .no
theorem asB_test {t : TE} {f : Ev → Res PyData} (k : ∀ σ H Q, tX X.K X.mg W (pE X.K X.mg) f σ H Q → t σ H Q) : ∀ σ H Q, tX X.K X.mg W pT (b1 f asB) σ H Q → t σ H fun x H' => ∃ k, x = .bl k ∧ Q k H' := by
  intro σ H Q q
  refine k σ H _ ?_
  obtain ⟨e, lk, F, R, s, q⟩ := q
  refine ⟨e, lk, F, R, s, resOk.bind q fun a v H1 F1 f1 g1 s1 p1 q1 => ?_⟩
  cases p1 with
  | bl b => exact ⟨b, rfl, q1.fin s1 rfl⟩
  | non => exact q1.elim
  | int _ => exact q1.elim
  | str _ => exact q1.elim
  | lst _ _ => exact q1.elim
  | tup _ _ => exact q1.elim
  | ins _ _ _ _ => exact q1.elim
  | scr _ => exact q1.elim
theorem ct_cmp {op : CmpOp} (ho : OpR X (compareOp op) r) (hs : OpFl X.K X.mg r h) (ha : CB X W a fa) (hb : CB X W b fb) (hm : behindInMarks op b = false) : CT X W (.Compare a [op] [b] pos) (b1 (b2 fa fb fun a b => ofO (h a b)) asB) :=
  (pt_cmpR ho ha hb hm).imp (asB_test (x_fl hs))
theorem ct_e {f : Ev → Res PyData} (ha : CE X W a f) (he : ∀ whole, isTrue a X.env whole = (do let v ← whole; standAt a.pos; holding [v] (truthy v)) := by intro _; rfl) : CT X W a (b1 f asB) :=
  (pt_val ha he).imp (asB_test fun _ _ _ q => q)

/-! ### chains of two comparisons -/
def chain (fa fb fc : Ev → Res PyData) (h h' : PyData → PyData → Option PyData) : Ev → Res PyData := fun e =>
  (fa e).bind fun a => (fb e).bind fun b => (ofO (h a b)).bind fun z => match z with
    | .bool true => (fc e).bind fun c => ofO (h' b c)
    | .bool false => .ok (.bool false)
    | _ => .no
theorem x_chain (hs : OpFl X.K X.mg r h) (hs' : OpFl X.K X.mg r' h') : ∀ σ H Q, tX X.K X.mg W (pE X.K X.mg) (chain fa fb fc h h') σ H Q →
    tChain r r' (tX X.K X.mg W (pB X.K X.mg) fa) (tX X.K X.mg W (pB X.K X.mg) fb) (tX X.K X.mg W (pB X.K X.mg) fc) σ H Q := by
  intro σ H Q q
  obtain ⟨e, lk, F, R, s, q⟩ := q
  refine ⟨e, lk, F, R, s, resOk.bind q fun a v H1 F1 f1 g1 s1 p1 q1 => ?_⟩
  refine ⟨e, lk, F1, R, s1, resOk.bind q1 fun b u H2 F2 f2 g2 s2 p2 q2 => ?_⟩
  have p1' : Rp X.K X.mg H2 v a := Rp.mono g2 p1
  try dsimp only at q2
  cases hh : h a b with
  | none => rw [hh] at q2; exact q2.elim
  | some z =>
    rw [hh] at q2
    obtain ⟨zv, hz, hr⟩ := hs H2 v u a b z p1' p2 hh
    refine hr _ ?_
    have hz0 := hz H2
    cases hz0 with
    | bl k =>
      refine ⟨k, rfl, ?_⟩
      cases k with
      | false =>
        rw [if_neg Bool.false_ne_true]
        exact q2.fin s2 (.bl false)
      | true =>
        rw [if_pos rfl]
        refine ⟨e, lk, F2, R, s2, resOk.bind q2 fun c w H3 F3 f3 g3 s3 p3 q3 => ?_⟩
        have p2' : Rp X.K X.mg H3 u b := Rp.mono g3 p2
        cases hh' : h' b c with
        | none => rw [hh'] at q3; exact q3.elim
        | some z' =>
          rw [hh'] at q3
          obtain ⟨zv', hz', hr'⟩ := hs' H3 u w b c z' p2' p3 hh'
          exact hr' _ (q3.fin s3 (hz' _))
    | non => exact q2.elim
    | int _ => exact q2.elim
    | str _ => exact q2.elim
    | lst _ _ => exact q2.elim
    | tup _ _ => exact q2.elim
    | ins _ _ _ _ => exact q2.elim
    | scr _ => exact q2.elim
theorem ce_chain {op op' : CmpOp} (ho : OpR X (compareOp op) r) (ho' : OpR X (compareOp op') r') (hs : OpFl X.K X.mg r h) (hs' : OpFl X.K X.mg r' h') (ha : CB X W a fa) (hb : CB X W b fb) (hc : CB X W c fc)
    (hm : lastMarks [op, op'] [b, c] = false := by with_unfolding_all rfl) : CE X W (.Compare a [op, op'] [b, c] pos) (chain fa fb fc h h') :=
  (pe_chain ho ho' ha hb hc hm).imp (x_chain hs hs')
theorem ct_chain {op op' : CmpOp} (ho : OpR X (compareOp op) r) (ho' : OpR X (compareOp op') r') (hs : OpFl X.K X.mg r h) (hs' : OpFl X.K X.mg r' h') (ha : CB X W a fa) (hb : CB X W b fb) (hc : CB X W c fc)
    (hm : lastMarks [op, op'] [b, c] = false := by with_unfolding_all rfl) : CT X W (.Compare a [op, op'] [b, c] pos) (b1 (chain fa fb fc h h') asB) :=
  (pt_chain ho ho' ha hb hc hm).imp (asB_test (x_chain hs hs'))
end

/-! ### and, or, not, if -/
section
variable {X : Cx} {W : WX} {a b c : Expr} {rest : List Expr} {ga gb gc : Ev → Res Bool} {fa fb fc : Ev → Res PyData} {pos : Pos}
def tAnd2 (ga gb : Ev → Res Bool) : Ev → Res Bool := fun e => (ga e).bind fun k => match k with
  | true => gb e
  | false => .ok false
def tOr2 (ga gb : Ev → Res Bool) : Ev → Res Bool := fun e => (ga e).bind fun k => match k with
  | true => .ok true
  | false => gb e
def bNot (k : Bool) : Res Bool := .ok (!k)
abbrev CW (X : Cx) (W : WX) (x : Expr) (f : Ev → Res Bool) : Prop := PW X x (tX X.K X.mg W pT f)
theorem cw_and1 (ha : CT X W a ga) : CW X W (.BoolOp .And [a] pos) ga := pw_and1 ha
theorem cw_or1 (ha : CT X W a ga) : CW X W (.BoolOp .Or [a] pos) ga := pw_or1 ha
theorem cw_and (ha : CT X W a ga) (hb : CW X W (.BoolOp .And (b :: rest) pos) gb) : CW X W (.BoolOp .And (a :: b :: rest) pos) (tAnd2 ga gb) := (pw_and ha hb).imp fun σ H Q q => by
  obtain ⟨e, lk, F, R, s, q⟩ := q
  refine ⟨e, lk, F, R, s, resOk.bind q fun k v H1 F1 f1 g1 s1 p1 q1 => ?_⟩
  cases p1
  cases k with
  | true =>
    rw [if_pos rfl]
    exact ⟨e, lk, F1, R, s1, q1⟩
  | false =>
    rw [if_neg Bool.false_ne_true]
    exact q1.fin s1 rfl
theorem cw_or (ha : CT X W a ga) (hb : CW X W (.BoolOp .Or (b :: rest) pos) gb) : CW X W (.BoolOp .Or (a :: b :: rest) pos) (tOr2 ga gb) := (pw_or ha hb).imp fun σ H Q q => by
  obtain ⟨e, lk, F, R, s, q⟩ := q
  refine ⟨e, lk, F, R, s, resOk.bind q fun k v H1 F1 f1 g1 s1 p1 q1 => ?_⟩
  cases p1
  cases k with
  | true =>
    rw [if_pos rfl]
    exact q1.fin s1 rfl
  | false =>
    rw [if_neg Bool.false_ne_true]
    exact ⟨e, lk, F1, R, s1, q1⟩
theorem ct_w (h : CW X W a ga) : CT X W a ga := h.pt
theorem ct_not (ha : CT X W a ga) : CT X W (.UnaryOp .Not a pos) (b1 ga bNot) := (pt_not ha).imp fun σ H Q q => by
  obtain ⟨e, lk, F, R, s, q⟩ := q
  refine ⟨e, lk, F, R, s, resOk.bind q fun k v H1 F1 f1 g1 s1 p1 q1 => ?_⟩
  cases p1
  exact q1.fin s1 rfl
/-- as values: all but the last True or False -/
def vAnd (fa fb : Ev → Res PyData) : Ev → Res PyData := fun e => (fa e).bind fun k => match k with
  | .bool true => fb e
  | .bool false => .ok (.bool false)
  | _ => .no
def vOr (fa fb : Ev → Res PyData) : Ev → Res PyData := fun e => (fa e).bind fun k => match k with
  | .bool true => .ok (.bool true)
  | .bool false => fb e
  | _ => .no
def vNot : PyData → Res PyData
  | .bool k => .ok (.bool (!k))
  | _ => .no
theorem ce_one {op} (ha : CE X W a fa) : CE X W (.BoolOp op [a] pos) fa := pe_one ha
theorem ce_and (ha : CE X W a fa) (hb : CE X W (.BoolOp .And (b :: rest) pos) fb) : CE X W (.BoolOp .And (a :: b :: rest) pos) (vAnd fa fb) := (pe_and ha hb).imp fun σ H Q q => by
  obtain ⟨e, lk, F, R, s, q⟩ := q
  refine ⟨e, lk, F, R, s, resOk.bind q fun k v H1 F1 f1 g1 s1 p1 q1 => ?_⟩
  cases p1 with
  | bl k =>
    refine ⟨k, rfl, ?_⟩
    cases k with
    | true =>
      rw [if_pos rfl]
      exact ⟨e, lk, F1, R, s1, q1⟩
    | false =>
      rw [if_neg Bool.false_ne_true]
      exact q1.fin s1 (.bl false)
  | non => exact q1.elim
  | int _ => exact q1.elim
  | str _ => exact q1.elim
  | lst _ _ => exact q1.elim
  | tup _ _ => exact q1.elim
  | ins _ _ _ _ => exact q1.elim
  | scr _ => exact q1.elim
theorem ce_or (ha : CE X W a fa) (hb : CE X W (.BoolOp .Or (b :: rest) pos) fb) : CE X W (.BoolOp .Or (a :: b :: rest) pos) (vOr fa fb) := (pe_or ha hb).imp fun σ H Q q => by
  obtain ⟨e, lk, F, R, s, q⟩ := q
  refine ⟨e, lk, F, R, s, resOk.bind q fun k v H1 F1 f1 g1 s1 p1 q1 => ?_⟩
  cases p1 with
  | bl k =>
    refine ⟨k, rfl, ?_⟩
    cases k with
    | true =>
      rw [if_pos rfl]
      exact q1.fin s1 (.bl true)
    | false =>
      rw [if_neg Bool.false_ne_true]
      exact ⟨e, lk, F1, R, s1, q1⟩
  | non => exact q1.elim
  | int _ => exact q1.elim
  | str _ => exact q1.elim
  | lst _ _ => exact q1.elim
  | tup _ _ => exact q1.elim
  | ins _ _ _ _ => exact q1.elim
  | scr _ => exact q1.elim
theorem ce_not (ha : CE X W a fa) : CE X W (.UnaryOp .Not a pos) (b1 fa vNot) := (pe_not ha).imp fun σ H Q q => by
  obtain ⟨e, lk, F, R, s, q⟩ := q
  refine ⟨e, lk, F, R, s, resOk.bind q fun k v H1 F1 f1 g1 s1 p1 q1 => ?_⟩
  cases p1 with
  | bl k => exact ⟨k, rfl, q1.fin s1 (.bl _)⟩
  | non => exact q1.elim
  | int _ => exact q1.elim
  | str _ => exact q1.elim
  | lst _ _ => exact q1.elim
  | tup _ _ => exact q1.elim
  | ins _ _ _ _ => exact q1.elim
  | scr _ => exact q1.elim
def vIf {α : Type} (g : Ev → Res Bool) (fa fb : Ev → Res α) : Ev → Res α := fun e => (g e).bind fun k => match k with
  | true => fa e
  | false => fb e
theorem x_if {α : Type} {post : Post V α} {xa xb : Ev → Res α} (hc : CT X W c gc) (ha : PE X a (tX X.K X.mg W post xa)) (hb : PE X b (tX X.K X.mg W post xb)) : PE X (.IfExp c a b pos) (tX X.K X.mg W post (vIf gc xa xb)) := (pe_ifExp hc ha hb).imp fun σ H Q q => by
  obtain ⟨e, lk, F, R, s, q⟩ := q
  refine ⟨e, lk, F, R, s, resOk.bind q fun k v H1 F1 f1 g1 s1 p1 q1 => ?_⟩
  cases p1
  cases k with
  | true =>
    rw [if_pos rfl]
    exact ⟨e, lk, F1, R, s1, q1⟩
  | false =>
    rw [if_neg Bool.false_ne_true]
    exact ⟨e, lk, F1, R, s1, q1⟩
theorem ce_if (hc : CT X W c gc) (ha : CE X W a fa) (hb : CE X W b fb) : CE X W (.IfExp c a b pos) (vIf gc fa fb) := x_if hc ha hb
theorem cf_if {xa xb : Ev → Res (List PyData)} (hc : CT X W c gc) (ha : CF X W a xa) (hb : CF X W b xb) : CF X W (.IfExp c a b pos) (vIf gc xa xb) := x_if hc ha hb
end

/-! ### arguments, displays -/
section
variable {X : Cx} {W : WX} {x : Expr} {xs : List Expr} {f : Ev → Res PyData} {fr : Ev → Res (List PyData)} {pos : Pos}
def aNil : Ev → Res (List PyData) := fun _ => .ok []
def aCons (f : Ev → Res PyData) (fr : Ev → Res (List PyData)) : Ev → Res (List PyData) := fun e => (f e).bind fun a => (fr e).bind fun r => .ok (a :: r)
theorem a_nil {pre : Post V PyData} : PA X [] (tX X.K X.mg W (pA pre) aNil) := pa_nil.imp fun σ H Q q => by
  obtain ⟨e, lk, F, R, s, q⟩ := q
  exact q.fin s .nil
theorem paired_mono {pre : Post V PyData} (st : Stable pre) {R : Ix → Hp} {F F' H H' : Hp} (f : Same F F') (g : Same H H') : ∀ {vs : List V} {ds : List PyData}, Paired (fun v d => pre R F H v d) vs ds → Paired (fun v d => pre R F' H' v d) vs ds
  | _, _, .nil => .nil
  | _, _, .cons h t => .cons (st _ _ _ _ _ _ _ f g h) (paired_mono st f g t)
theorem a_cons {pre : Post V PyData} (st : Stable pre) (ha : PE X x (tX X.K X.mg W pre f)) (hr : PA X xs (tX X.K X.mg W (pA pre) fr)) (hs : starEach (x :: xs) X.env = (false, eval x X.env) :: starEach xs X.env) :
    PA X (x :: xs) (tX X.K X.mg W (pA pre) (aCons f fr)) := (pa_cons ha hr hs).imp fun σ H Q q => by
  obtain ⟨e, lk, F, R, s, q⟩ := q
  refine ⟨e, lk, F, R, s, resOk.bind q fun a v H1 F1 f1 g1 s1 p1 q1 => ?_⟩
  refine ⟨e, lk, F1, R, s1, resOk.bind q1 fun r vs H2 F2 f2 g2 s2 p2 q2 => ?_⟩
  exact q2.fin s2 (.cons (st _ _ _ _ _ _ _ f2 g2 p1) p2)
theorem cae_nil : CAE X W [] aNil := a_nil
theorem cab_nil : CAB X W [] aNil := a_nil
theorem cae_cons (ha : CE X W x f) (hr : CAE X W xs fr) (hs : starEach (x :: xs) X.env = (false, eval x X.env) :: starEach xs X.env := by rfl) : CAE X W (x :: xs) (aCons f fr) := a_cons st_pE ha hr hs
theorem cab_cons (ha : CB X W x f) (hr : CAB X W xs fr) (hs : starEach (x :: xs) X.env = (false, eval x X.env) :: starEach xs X.env := by rfl) : CAB X W (x :: xs) (aCons f fr) := a_cons st_pB ha hr hs
theorem RpA.of_paired {K : PySem.W.Frag} {mg : Str → Option Value} {F : Hp} : ∀ {vs : List V} {ds : List PyData}, Paired (fun v d => Rp K mg F v d) vs ds → RpA K mg F vs ds
  | _, _, .nil => .nil
  | _, _, .cons h t => .cons h (RpA.of_paired t)
theorem RpA.paired {K : PySem.W.Frag} {mg : Str → Option Value} {F : Hp} : ∀ {vs : List V} {ds : List PyData}, RpA K mg F vs ds → Paired (fun v d => Rp K mg F v d) vs ds
  | _, _, .nil => .nil
  | _, _, .cons h t => .cons h (RpA.paired t)
/-- a list's length that is surely small -/
def small (n : Nat) : Bool := decide (n ≤ 100000)
theorem small_le {n : Nat} (h : small n = true) : n ≤ sizeLine := Nat.le_trans (of_decide_eq_true h) (by decide)
def capL (ds : List PyData) : Res (List PyData) := if small ds.length then .ok ds else .no
def tupL (ds : List PyData) : Res PyData := if small ds.length then .ok (.tuple ds) else .no
theorem cf_lst (h : CAE X W xs fr) : CF X W (.List xs pos) (b1 fr capL) := (pe_lst h).imp fun σ H Q q => by
  obtain ⟨e, lk, F, R, s, q⟩ := q
  refine ⟨e, lk, F, R, s, resOk.bind q fun ds vs H1 F1 f1 g1 s1 p1 q1 => ?_⟩
  unfold capL at q1
  have p2 := RpA.of_paired p1
  by_cases hs : small ds.length = true
  · rw [if_pos hs] at q1
    refine ⟨by rw [p2.len]; exact small_le hs, fun p hp => ?_⟩
    exact q1 _ _ F1 (Same.refl _) (same_upd hp) (s1.heap (same_upd hp)) ⟨p, vs, rfl, upd_same, s1.newF hp, s1.newR hp, p2⟩
  · rw [if_neg hs] at q1
    exact q1.elim
theorem ce_tup {k} (h : CAE X W xs fr) : CE X W (.Tuple xs k pos) (b1 fr tupL) := (pe_tup h).imp fun σ H Q q => by
  obtain ⟨e, lk, F, R, s, q⟩ := q
  refine ⟨e, lk, F, R, s, resOk.bind q fun ds vs H1 F1 f1 g1 s1 p1 q1 => ?_⟩
  unfold tupL at q1
  have p2 := RpA.of_paired p1
  by_cases hs : small ds.length = true
  · rw [if_pos hs] at q1
    refine ⟨by rw [p2.len]; exact small_le hs, fun p hp => ?_⟩
    have s2 := (s1.heap (same_upd hp) (H' := upd H1 p (.tup vs))).keep upd_same (s1.newF hp) (s1.newR hp)
    exact q1 _ _ _ (same_upd (s1.newF hp)) (same_upd hp) s2 (.tup upd_same (p2.mono (same_upd (s1.newF hp))))
  · rw [if_neg hs] at q1
    exact q1.elim
end

/-! ### built-in functions by data -/
def CallFl (K : PySem.W.Frag) (mg : Str → Option Value) (r : List V → Hp → VK → Prop) (h : List PyData → Option PyData) : Prop :=
  ∀ H vs ds c, RpA K mg H vs ds → h ds = some c → ∃ z, (∀ F, Rp K mg F z c) ∧ ∀ Q : VK, Q z H → r vs H Q
section
variable {X : Cx} {W : WX} {x : Expr} {xs : List Expr} {fr : Ev → Res (List PyData)} {pos p : Pos} {n : Str} {id T : String} {r : List V → Hp → VK → Prop} {h : List PyData → Option PyData}
theorem x_cfl (hs : CallFl X.K X.mg r h) : ∀ σ H Q, tX X.K X.mg W (pE X.K X.mg) (b1 fr fun ds => ofO (h ds)) σ H Q → tCB r (tX X.K X.mg W (pA (pB X.K X.mg)) fr) σ H Q := by
  intro σ H Q q
  obtain ⟨e, lk, F, R, s, q⟩ := q
  refine ⟨e, lk, F, R, s, resOk.bind q fun ds vs H1 F1 f1 g1 s1 p1 q1 => ?_⟩
  cases hh : h ds with
  | none => rw [hh] at q1; exact q1.elim
  | some c =>
    rw [hh] at q1
    obtain ⟨z, hz, hr⟩ := hs H1 vs ds c (RpA.of_paired p1) hh
    exact hr Q (q1.fin s1 (hz _))
theorem ce_callB (hc : CallR X (.builtin id) r) (hs : CallFl X.K X.mg r h) (hg : Gl X n) (hm : X.mg n = none) (hv : bootBuiltins n = some (.builtin id)) (ha : CAB X W (x :: xs) fr) (hn : n ≠ "__name__" := by decide) (hdb : (n == ("__debug__" : Str)) = false := by decide)
    (he : starEach (x :: xs) X.env = (false, eval x X.env) :: starEach xs X.env := by rfl) (hpl : (backTo pos (starEach xs X.env)).any (·.1) = false := by rfl) : CE X W (.Call (.Name n p) (x :: xs) [] pos) (b1 fr fun ds => ofO (h ds)) :=
  (pe_callB hc hg hm hv ha hn hdb he hpl).imp (x_cfl hs)
theorem ce_callTy (hc : CallR X (.type T) r) (hs : CallFl X.K X.mg r h) (hg : Gl X n) (hm : X.mg n = none) (hv : bootBuiltins n = some (.type T)) (ha : CAB X W (x :: xs) fr) (hn : n ≠ "__name__" := by decide) (hdb : (n == ("__debug__" : Str)) = false := by decide)
    (he : starEach (x :: xs) X.env = (false, eval x X.env) :: starEach xs X.env := by rfl) (hpl : (backTo pos (starEach xs X.env)).any (·.1) = false := by rfl) : CE X W (.Call (.Name n p) (x :: xs) [] pos) (b1 fr fun ds => ofO (h ds)) :=
  (pe_callTy hc hg hm hv ha hn hdb he hpl).imp (x_cfl hs)
end
end VL
end
section
set_option Elab.async false
set_option linter.all false
set_option maxRecDepth 100000
set_option autoImplicit false
set_option maxHeartbeats 4000000
/-! The value layer: the single operators and built-ins. -/
namespace VL
open PySem PySem.Spec PyProof.Rows L2

section
variable {K : PySem.W.Frag} {mg : Str → Option Value}
/-! ### whole numbers -/
def intOp (g : Int → Int → PyData) : PyData → PyData → Option PyData
  | .int i, .int j => some (g i j)
  | _, _ => none
def intOpC (c : Int → Int → Bool) (g : Int → Int → PyData) : PyData → PyData → Option PyData
  | .int i, .int j => if c i j then some (g i j) else none
  | _, _ => none
theorem fl_int0 {g : Int → Int → V} {gd : Int → Int → PyData} (hg : ∀ i j F, Rp K mg F (g i j) (gd i j)) : OpFl K mg (rI0 g) (intOp gd) := by
  intro H x y a b c ha hb hh
  cases ha <;> cases hb <;> first
    | (cases hh; done)
    | (cases hh; exact ⟨_, hg _ _, fun Q q => ⟨_, _, rfl, rfl, q⟩⟩)
theorem fl_intC {C : Int → Int → Prop} {g : Int → Int → V} {cb : Int → Int → Bool} {gd : Int → Int → PyData} (hc : ∀ i j, cb i j = true → C i j) (hg : ∀ i j F, Rp K mg F (g i j) (gd i j)) : OpFl K mg (rI C g) (intOpC cb gd) := by
  intro H x y a b c ha hb hh
  cases ha <;> cases hb <;> first
    | (cases hh; done)
    | (rename_i i j
       simp only [intOpC] at hh
       by_cases h : cb i j = true
       · rw [if_pos h] at hh
         cases hh
         exact ⟨_, hg _ _, fun Q q => ⟨_, _, rfl, rfl, hc _ _ h, q⟩⟩
       · rw [if_neg h] at hh
         cases hh)
def addI : PyData → PyData → Option PyData := intOp fun i j => .int (i + j)
def subI : PyData → PyData → Option PyData := intOp fun i j => .int (i - j)
def mulI : PyData → PyData → Option PyData := intOpC (fun i j => decide (-(2 ^ 64) < i ∧ i < 2 ^ 64) || decide (-(2 ^ 64) < j ∧ j < 2 ^ 64)) fun i j => .int (i * j)
def divI : PyData → PyData → Option PyData := intOpC (fun _ j => decide (0 < j ∧ j < 1073741824)) fun i j => .int (i / j)
def modI : PyData → PyData → Option PyData := intOpC (fun _ j => decide (0 < j)) fun i j => .int (i % j)
def ltI : PyData → PyData → Option PyData := intOp fun i j => .bool (decide (i < j))
def leI : PyData → PyData → Option PyData := intOp fun i j => .bool (decide (i ≤ j))
def gtI : PyData → PyData → Option PyData := intOp fun i j => .bool (decide (j < i))
def geI : PyData → PyData → Option PyData := intOp fun i j => .bool (decide (j ≤ i))
theorem fl_add : OpFl K mg (rI0 fun i j => .int (i + j)) addI := fl_int0 fun _ _ _ => .int _
theorem fl_sub : OpFl K mg (rI0 fun i j => .int (i - j)) subI := fl_int0 fun _ _ _ => .int _
theorem fl_mul : OpFl K mg (rI CMul fun i j => .int (i * j)) mulI := fl_intC (fun i j h => by
  rw [Bool.or_eq_true] at h
  rcases h with h | h
  · exact .inl (of_decide_eq_true h)
  · exact .inr (of_decide_eq_true h)) fun _ _ _ => .int _
theorem fl_div : OpFl K mg (rI CDiv fun i j => .int (i / j)) divI := fl_intC (fun i j h => (of_decide_eq_true h : 0 < j ∧ j < 1073741824)) fun _ _ _ => .int _
theorem fl_mod : OpFl K mg (rI (fun _ j => 0 < j) fun i j => .int (i % j)) modI := fl_intC (fun i j h => of_decide_eq_true h) fun _ _ _ => .int _
theorem fl_lt : OpFl K mg (rI0 fun i j => .bl (decide (i < j))) ltI := fl_int0 fun _ _ _ => .bl _
theorem fl_le : OpFl K mg (rI0 fun i j => .bl (decide (i ≤ j))) leI := fl_int0 fun _ _ _ => .bl _
theorem fl_gt : OpFl K mg (rI0 fun i j => .bl (decide (j < i))) gtI := fl_int0 fun _ _ _ => .bl _
theorem fl_ge : OpFl K mg (rI0 fun i j => .bl (decide (j ≤ i))) geI := fl_int0 fun _ _ _ => .bl _
/-! ### equality, membership -/
def eqD (a b : PyData) : Option PyData := if SeqAt.shaped a && SeqAt.shaped b then some (.bool (PyData.eqv a b)) else none
def neD (a b : PyData) : Option PyData := if SeqAt.shaped a && SeqAt.shaped b then some (.bool (!PyData.eqv a b)) else none
theorem fl_eq : OpFl K mg (rEqD K) eqD := by
  intro H x y a b c ha hb hh
  unfold eqD at hh
  by_cases h : (SeqAt.shaped a && SeqAt.shaped b) = true
  · rw [if_pos h] at hh
    rw [Bool.and_eq_true] at h
    cases hh
    exact ⟨.bl _, fun _ => .bl _, fun Q q => ⟨a, b, ha.dp (SeqAt.canLay_of_shaped h.1), hb.dp (SeqAt.canLay_of_shaped h.2), h.1, h.2, q⟩⟩
  · rw [if_neg h] at hh
    cases hh
theorem fl_ne : OpFl K mg (rNeD K) neD := by
  intro H x y a b c ha hb hh
  unfold neD at hh
  by_cases h : (SeqAt.shaped a && SeqAt.shaped b) = true
  · rw [if_pos h] at hh
    rw [Bool.and_eq_true] at h
    cases hh
    exact ⟨.bl _, fun _ => .bl _, fun Q q => ⟨a, b, ha.dp (SeqAt.canLay_of_shaped h.1), hb.dp (SeqAt.canLay_of_shaped h.2), h.1, h.2, q⟩⟩
  · rw [if_neg h] at hh
    cases hh
def inD (neg : Bool) (a : PyData) : PyData → Option PyData
  | .list ds => if SeqAt.shaped a && SeqAt.shaped (.list ds) then some (.bool (if neg then !ds.any fun z => PyData.eqv z a else ds.any fun z => PyData.eqv z a)) else none
  | _ => none
theorem fl_in : OpFl K mg (rInD K) (inD false) := by
  intro H x y a b c ha hb hh
  cases hb with
  | @lst p xs ds hp hr =>
    simp only [inD] at hh
    by_cases h : (SeqAt.shaped a && SeqAt.shaped (.list ds)) = true
    · rw [if_pos h] at hh
      rw [Bool.and_eq_true] at h
      cases hh
      exact ⟨.bl _, fun _ => .bl _, fun Q q => ⟨a, ds, ha.dp (SeqAt.canLay_of_shaped h.1), (Rp.lst hp hr).dp (SeqAt.canLay_of_shaped h.2), h.1, h.2, q⟩⟩
    · rw [if_neg h] at hh
      cases hh
  | _ => cases hh
theorem fl_notIn : OpFl K mg (rNotInD K) (inD true) := by
  intro H x y a b c ha hb hh
  cases hb with
  | @lst p xs ds hp hr =>
    simp only [inD] at hh
    by_cases h : (SeqAt.shaped a && SeqAt.shaped (.list ds)) = true
    · rw [if_pos h] at hh
      rw [Bool.and_eq_true] at h
      cases hh
      exact ⟨.bl _, fun _ => .bl _, fun Q q => ⟨a, ds, ha.dp (SeqAt.canLay_of_shaped h.1), (Rp.lst hp hr).dp (SeqAt.canLay_of_shaped h.2), h.1, h.2, q⟩⟩
    · rw [if_neg h] at hh
      cases hh
  | _ => cases hh
def isND (a : PyData) (_ : PyData) : Option PyData := match a with
  | .none => some (.bool true)
  | _ => some (.bool false)
def notND (a : PyData) (_ : PyData) : Option PyData := match a with
  | .none => some (.bool false)
  | _ => some (.bool true)
theorem Rp.isN {H : Hp} {x : V} {a : PyData} (h : Rp K mg H x a) : decide (x = .non) = (match a with | .none => true | _ => false) := by
  cases h <;> rfl
theorem fl_isN : OpFl K mg (fun x y H Q => y = .non ∧ Q (.bl (decide (x = .non))) H) (fun a b => match b with | .none => isND a b | _ => none) := by
  intro H x y a b c ha hb hh
  cases hb with
  | non =>
    have e := ha.isN
    cases ha <;> cases hh <;> exact ⟨.bl _, fun _ => .bl _, fun Q q => ⟨rfl, q⟩⟩
  | _ => cases hh
theorem fl_notN : OpFl K mg (fun x y H Q => y = .non ∧ Q (.bl (!decide (x = .non))) H) (fun a b => match b with | .none => notND a b | _ => none) := by
  intro H x y a b c ha hb hh
  cases hb with
  | non =>
    have e := ha.isN
    cases ha <;> cases hh <;> exact ⟨.bl _, fun _ => .bl _, fun Q q => ⟨rfl, q⟩⟩
  | _ => cases hh
/-! ### numbers and lengths out of lists -/
def intsOf : List PyData → Option (List Int)
  | [] => some []
  | .int i :: r => (intsOf r).map (i :: ·)
  | _ => none
theorem intsOf_eq : ∀ {ds : List PyData} {ns : List Int}, intsOf ds = some ns → ds = ns.map .int
  | [], ns, h => by cases h; rfl
  | .int i :: r, ns, h => by
    unfold intsOf at h
    cases e : intsOf r with
    | none => rw [e] at h; cases h
    | some ms =>
      rw [e] at h
      cases h
      rw [intsOf_eq e]
      rfl
@[simp] theorem intsOf_map : ∀ ns : List Int, intsOf (ns.map .int) = some ns
  | [] => rfl
  | n :: ns => by
    show (intsOf (ns.map .int)).map (n :: ·) = _
    rw [intsOf_map ns]
    rfl
def boolsOf : List PyData → Option (List Bool)
  | [] => some []
  | .bool i :: r => (boolsOf r).map (i :: ·)
  | _ => none
theorem boolsOf_vs {H : Hp} : ∀ {vs : List V} {ds : List PyData} {bs : List Bool}, RpA K mg H vs ds → boolsOf ds = some bs → vs = bs.map V.bl
  | _, _, bs, .nil, h => by cases h; rfl
  | _, _, bs, .cons (v := v) (d := d) hv ht, h => by
    cases hv with
    | bl b =>
      unfold boolsOf at h
      rename_i ds
      cases e : boolsOf ds with
      | none => rw [e] at h; cases h
      | some cs =>
        rw [e] at h
        cases h
        rw [boolsOf_vs ht e]
        rfl
    | _ => cases h
@[simp] theorem boolsOf_map : ∀ bs : List Bool, boolsOf (bs.map .bool) = some bs
  | [] => rfl
  | b :: bs => by
    show (boolsOf (bs.map .bool)).map (b :: ·) = _
    rw [boolsOf_map bs]
    rfl
def lenD : List PyData → Option PyData
  | [.list ds] => some (.int ds.length)
  | [.tuple ds] => some (.int ds.length)
  | [.str x] => if small x.length then some (.int x.length) else none
  | [.dict [(.bool true, .list ds)]] => some (.int ds.length)
  | _ => none
theorem fl_len : CallFl K mg (fun xs H Q => ∃ x n, xs = [x] ∧ LenV K x H n ∧ Q (.int n) H) lenD := by
  intro H vs ds c hr hh
  cases hr with
  | nil => cases hh
  | cons h t =>
    cases t with
    | cons _ _ => cases h <;> cases hh
    | nil =>
      cases h with
      | @lst p xs es hp ha =>
        cases hh
        exact ⟨.int es.length, fun _ => .int _, fun Q q => ⟨_, _, rfl, .inl ⟨xs, SqL.of hp, ha.len.symm⟩, q⟩⟩
      | @tup p xs es hp ha =>
        cases hh
        exact ⟨.int es.length, fun _ => .int _, fun Q q => ⟨_, _, rfl, .inr ⟨xs, SqT.of hp, ha.len.symm⟩, q⟩⟩
      | str x =>
        simp only [lenD] at hh
        by_cases h : small x.length = true
        · rw [if_pos h] at hh
          cases hh
          exact ⟨.int x.length, fun _ => .int _, fun Q q => ⟨_, _, rfl, ⟨small_le h, rfl⟩, q⟩⟩
        · rw [if_neg h] at hh
          cases hh
      | @scr p ns hs =>
        cases hh
        exact ⟨.int (ns.map V.int).length, fun _ => by rw [List.length_map, List.length_map]; exact .int _, fun Q q => ⟨_, _, rfl, .inl ⟨_, hs, rfl⟩, q⟩⟩
      | _ => cases hh
def absD : List PyData → Option PyData
  | [.int i] => some (.int (if i < 0 then -i else i))
  | _ => none
def maxD2 : List PyData → Option PyData
  | [.int i, .int j] => some (.int (if j > i then j else i))
  | _ => none
def minD2 : List PyData → Option PyData
  | [.int i, .int j] => some (.int (if j < i then j else i))
  | _ => none
theorem RpA.one {H : Hp} {vs : List V} {d : PyData} (h : RpA K mg H vs [d]) : ∃ v, vs = [v] ∧ Rp K mg H v d := by
  cases h with
  | cons h t =>
    cases t
    exact ⟨_, rfl, h⟩
theorem RpA.two {H : Hp} {vs : List V} {d d' : PyData} (h : RpA K mg H vs [d, d']) : ∃ v v', vs = [v, v'] ∧ Rp K mg H v d ∧ Rp K mg H v' d' := by
  cases h with
  | cons h t =>
    obtain ⟨v, rfl, h2⟩ := t.one
    exact ⟨_, _, rfl, h, h2⟩
theorem fl_abs : CallFl K mg (fun xs H Q => ∃ i, xs = [.int i] ∧ Q (.int (if i < 0 then -i else i)) H) absD := by
  intro H vs ds c hr hh
  unfold absD at hh
  split at hh
  · cases hh
    obtain ⟨v, rfl, h⟩ := hr.one
    cases h
    exact ⟨.int _, fun _ => .int _, fun Q q => ⟨_, rfl, q⟩⟩
  · cases hh
theorem fl_max2 : CallFl K mg (fun xs H Q => ∃ i j, xs = [.int i, .int j] ∧ Q (.int (if j > i then j else i)) H) maxD2 := by
  intro H vs ds c hr hh
  unfold maxD2 at hh
  split at hh
  · cases hh
    obtain ⟨v, v', rfl, h, h'⟩ := hr.two
    cases h
    cases h'
    exact ⟨.int _, fun _ => .int _, fun Q q => ⟨_, _, rfl, q⟩⟩
  · cases hh
theorem fl_min2 : CallFl K mg (fun xs H Q => ∃ i j, xs = [.int i, .int j] ∧ Q (.int (if j < i then j else i)) H) minD2 := by
  intro H vs ds c hr hh
  unfold minD2 at hh
  split at hh
  · cases hh
    obtain ⟨v, v', rfl, h, h'⟩ := hr.two
    cases h
    cases h'
    exact ⟨.int _, fun _ => .int _, fun Q q => ⟨_, _, rfl, q⟩⟩
  · cases hh
/-- the ints of a list, or of the script -/
def intsIn : PyData → Option (List Int)
  | .list ds => intsOf ds
  | .dict [(.bool true, .list ds)] => intsOf ds
  | _ => none
theorem intsIn_sq {H : Hp} {v : V} {d : PyData} {ns : List Int} (h : Rp K mg H v d) (e : intsIn d = some ns) : ∃ a, v = .ref a ∧ SqL K H a (ns.map V.int) := by
  cases h with
  | @lst p xs es hp ha =>
    have e1 := intsOf_eq (ds := es) e
    subst e1
    have e2 := ha.ints
    subst e2
    exact ⟨p, rfl, SqL.of hp⟩
  | @scr p ms hs =>
    have e0 : intsOf (ms.map .int) = some ns := e
    rw [intsOf_map] at e0
    cases e0
    exact ⟨p, rfl, hs⟩
  | _ => cases e
def sumD : List PyData → Option PyData
  | [d] => (intsIn d).map fun ns => .int ns.sum
  | _ => none
theorem fl_sum : CallFl K mg (rSum K) sumD := by
  intro H vs ds c hr hh
  unfold sumD at hh
  split at hh
  · rename_i d
    cases e : intsIn d with
    | none => rw [e] at hh; cases hh
    | some ns =>
      rw [e] at hh
      cases hh
      obtain ⟨v, rfl, h⟩ := hr.one
      obtain ⟨a, rfl, hs⟩ := intsIn_sq h e
      exact ⟨.int _, fun _ => .int _, fun Q q => ⟨_, _, rfl, hs, q⟩⟩
  · cases hh
def maxL : Int → List Int → Int
  | m, [] => m
  | m, n :: ns => maxL (if n > m then n else m) ns
theorem maxL_ge : ∀ (m : Int) (ns : List Int), m ≤ maxL m ns ∧ ∀ y ∈ ns, y ≤ maxL m ns
  | m, [] => ⟨Int.le_refl _, fun _ h => by cases h⟩
  | m, n :: ns => by
    have ih := maxL_ge (if n > m then n else m) ns
    have h1 : m ≤ (if n > m then n else m) := by split <;> omega
    have h2 : n ≤ (if n > m then n else m) := by split <;> omega
    refine ⟨Int.le_trans h1 ih.1, fun y hy => ?_⟩
    rcases List.mem_cons.mp hy with rfl | hy
    · exact Int.le_trans h2 ih.1
    · exact ih.2 y hy
theorem maxL_mem : ∀ (m : Int) (ns : List Int), maxL m ns = m ∨ maxL m ns ∈ ns
  | m, [] => .inl rfl
  | m, n :: ns => by
    rcases maxL_mem (if n > m then n else m) ns with h | h
    · show maxL (if n > m then n else m) ns = m ∨ maxL (if n > m then n else m) ns ∈ n :: ns
      rw [h]
      split
      · exact .inr List.mem_cons_self
      · exact .inl rfl
    · exact .inr (List.mem_cons_of_mem _ h)
def maxD : List PyData → Option PyData
  | [d] => match intsIn d with
    | some (n :: ns) => some (.int (maxL n ns))
    | _ => none
  | _ => none
theorem fl_max : CallFl K mg (rMax K) maxD := by
  intro H vs ds c hr hh
  unfold maxD at hh
  split at hh
  · rename_i d
    split at hh
    · rename_i n ns e
      cases hh
      obtain ⟨v, rfl, h⟩ := hr.one
      obtain ⟨a, rfl, hs⟩ := intsIn_sq h e
      refine ⟨.int _, fun _ => .int _, fun Q q => ⟨_, _, rfl, hs, by simp, fun m hm hle => ?_⟩⟩
      have g := maxL_ge n ns
      have k : maxL n ns ∈ n :: ns := by
        rcases maxL_mem n ns with e | e
        · rw [e]; exact List.mem_cons_self
        · exact List.mem_cons_of_mem _ e
      have : m = maxL n ns := by
        have h1 := hle _ k
        have h2 : m ≤ maxL n ns := by
          rcases List.mem_cons.mp hm with rfl | hm
          · exact g.1
          · exact g.2 m hm
        omega
      rw [this]
      exact q
    · cases hh
  · cases hh
def allD : List PyData → Option PyData
  | [.list ds] => (boolsOf ds).map fun bs => .bool (bs.all id)
  | _ => none
def anyD : List PyData → Option PyData
  | [.list ds] => (boolsOf ds).map fun bs => .bool (bs.any id)
  | _ => none
end
end VL
end
section
set_option Elab.async false
set_option linter.all false
set_option maxRecDepth 100000
set_option autoImplicit false
set_option maxHeartbeats 4000000
/-! The value layer: items, slices, new lists. -/
namespace VL
open PySem PySem.Spec PyProof.Rows L2
section
variable {K : PySem.W.Frag} {mg : Str → Option Value}
theorem fl_all : CallFl K mg (rAll K) allD := by
  intro H vs ds c hr hh
  unfold allD at hh
  split at hh
  · rename_i es
    cases e : boolsOf es with
    | none => rw [e] at hh; cases hh
    | some bs =>
      rw [e] at hh
      cases hh
      obtain ⟨v, rfl, h⟩ := hr.one
      cases h with
      | lst hp ha =>
        have e1 := boolsOf_vs ha e
        subst e1
        exact ⟨.bl _, fun _ => .bl _, fun Q q => ⟨_, _, rfl, SqL.of hp, q⟩⟩
  · cases hh
theorem fl_any : CallFl K mg (rAny K) anyD := by
  intro H vs ds c hr hh
  unfold anyD at hh
  split at hh
  · rename_i es
    cases e : boolsOf es with
    | none => rw [e] at hh; cases hh
    | some bs =>
      rw [e] at hh
      cases hh
      obtain ⟨v, rfl, h⟩ := hr.one
      cases h with
      | lst hp ha =>
        have e1 := boolsOf_vs ha e
        subst e1
        exact ⟨.bl _, fun _ => .bl _, fun Q q => ⟨_, _, rfl, SqL.of hp, q⟩⟩
  · cases hh
/-! ### items -/
theorem RpA.atI {H : Hp} {vs : List V} {ds : List PyData} {i : Int} {d : PyData} (h : RpA K mg H vs ds) (e : atI ds i = some d) : ∃ v, L2.atI vs i = some v ∧ Rp K mg H v d := by
  unfold L2.atI at e ⊢
  rw [h.len]
  cases hk : ixN ds.length i with
  | none => rw [hk] at e; cases e
  | some j =>
    rw [hk] at e
    exact h.get e
def idxD (a b : PyData) : Option PyData := match b with
  | .int i => (match a with
    | .list ds => L2.atI ds i
    | .tuple ds => L2.atI ds i
    | .str x => if small x.length then (L2.atI x.cps.toList i).map fun c => .str ⟨#[c]⟩ else none
    | .dict [(.bool true, .list ds)] => L2.atI ds i
    | _ => none)
  | _ => none
end
section
variable {X : Cx} {W : WX} {a b : Expr} {fa fb : Ev → Res PyData} {pos : Pos}
theorem ce_ix (ha : CU X W a fa) (hb : CB X W b fb) (hs : PlainIx b) : CE X W (.Subscript a b pos) (b2 fa fb fun a b => ofO (idxD a b)) := (pe_ix ix_seq ha hb hs).imp fun σ H Q q => by
  obtain ⟨e, lk, F, R, s, q⟩ := q
  refine ⟨e, lk, F, R, s, resOk.bind q fun a v H1 F1 f1 g1 s1 p1 q1 => ?_⟩
  refine ⟨e, lk, F1, R, s1, resOk.bind q1 fun b u H2 F2 f2 g2 s2 p2 q2 => ?_⟩
  try dsimp only at q2
  cases p2 with
  | int i =>
    rcases p1 with p1 | ⟨p, vs, ds, rfl, rfl, hp, hr⟩
    · cases p1 with
      | @lst p xs ds hp hr =>
        simp only [idxD] at q2
        cases hd : L2.atI ds i with
        | none => rw [hd] at q2; exact q2.elim
        | some d =>
          rw [hd] at q2
          obtain ⟨w, hw, hr2⟩ := hr.atI hd
          exact .inl ⟨p, xs, i, w, rfl, rfl, SqL.of (s2.fh _ _ (f2 _ _ hp)), hw, q2.fin s2 (hr2.mono f2)⟩
      | @tup p xs ds hp hr =>
        simp only [idxD] at q2
        cases hd : L2.atI ds i with
        | none => rw [hd] at q2; exact q2.elim
        | some d =>
          rw [hd] at q2
          obtain ⟨w, hw, hr2⟩ := hr.atI hd
          exact .inr (.inl ⟨p, xs, i, w, rfl, rfl, SqT.of (s2.fh _ _ (f2 _ _ hp)), hw, q2.fin s2 (hr2.mono f2)⟩)
      | str x =>
        simp only [idxD] at q2
        by_cases h : small x.length = true
        · rw [if_pos h] at q2
          cases hd : L2.atI x.cps.toList i with
          | none => rw [hd] at q2; exact q2.elim
          | some c =>
            rw [hd] at q2
            exact .inr (.inr ⟨x, i, c, rfl, rfl, small_le h, hd, q2.fin s2 (.str _)⟩)
        · rw [if_neg h] at q2
          exact q2.elim
      | @scr p ns hs =>
        simp only [idxD] at q2
        cases hd : L2.atI (ns.map PyData.int) i with
        | none => rw [hd] at q2; exact q2.elim
        | some d =>
          rw [hd] at q2
          obtain ⟨w, hw, hr2⟩ := (RpA.of_ints (K := X.K) (mg := X.mg) (H := F2) ns).atI hd
          exact .inl ⟨p, _, i, w, rfl, rfl, s2.fh.seq (f2.seq hs), hw, q2.fin s2 hr2⟩
      | ins _ _ _ _ => exact q2.elim
      | non => exact q2.elim
      | bl _ => exact q2.elim
      | int _ => exact q2.elim
    · simp only [idxD] at q2
      cases hd : L2.atI ds i with
      | none => rw [hd] at q2; exact q2.elim
      | some d =>
        rw [hd] at q2
        obtain ⟨w, hw, hr2⟩ := hr.atI hd
        exact .inl ⟨p, vs, i, w, rfl, rfl, SqL.of (g2 _ _ hp), hw, q2.fin s2 (hr2.mono f2)⟩
  | _ => exact q2.elim
/-! ### slices -/
def pO : Post (Option Int) (Option Int) := fun _ _ _ v d => v = d
abbrev CO (X : Cx) (W : WX) (x : Option Expr) (f : Ev → Res (Option Int)) : Prop := PO X x (tX X.K X.mg W pO f)
def oNone : Ev → Res (Option Int) := fun _ => .ok none
def asO : PyData → Res (Option Int)
  | .int i => .ok (some i)
  | _ => .no
theorem co_none : CO X W none oNone := po_none.imp fun σ H Q q => by
  obtain ⟨e, lk, F, R, s, q⟩ := q
  exact q.fin s rfl
theorem co_some (h : CB X W a fa) : CO X W (some a) (b1 fa asO) := (po_some h).imp fun σ H Q q => by
  obtain ⟨e, lk, F, R, s, q⟩ := q
  refine ⟨e, lk, F, R, s, resOk.bind q fun d v H1 F1 f1 g1 s1 p1 q1 => ?_⟩
  cases p1 with
  | int i => exact ⟨i, rfl, q1.fin s1 rfl⟩
  | _ => exact q1.elim
def cutG {α : Type} (xs : List α) (lo hi : Option Int) : List α := (xs.drop (HT.sIx xs.length 0 lo)).take (HT.sIx xs.length xs.length hi - HT.sIx xs.length 0 lo)
theorem RpA.cut {K : PySem.W.Frag} {mg : Str → Option Value} {H : Hp} {vs : List V} {ds : List PyData} (h : RpA K mg H vs ds) (lo hi : Option Int) : RpA K mg H (cutV vs lo hi) (cutG ds lo hi) := by
  unfold cutV cutG
  rw [h.len]
  exact (h.drop _).take _
/-- the items of a list that is read -/
def itemsD : PyData → Option (List PyData)
  | .list ds => some ds
  | .dict [(.bool true, .list ds)] => some ds
  | _ => none
theorem us_items {K : PySem.W.Frag} {mg : Str → Option Value} {F H : Hp} {v : V} {d : PyData} {ds : List PyData} (s : Same F H) (h : Us K mg F H v d) (e : itemsD d = some ds) : ∃ p vs, v = .ref p ∧ SqL K H p vs ∧ RpA K mg F vs ds := by
  rcases h with h | ⟨p, vs, es, rfl, rfl, hp, hr⟩
  · cases h with
    | lst hp hr =>
      cases e
      exact ⟨_, _, rfl, SqL.of (s _ _ hp), hr⟩
    | @scr p ns hs =>
      cases e
      exact ⟨p, _, rfl, s.seq hs, RpA.of_ints ns⟩
    | _ => cases e
  · cases e
    exact ⟨p, vs, rfl, SqL.of hp, hr⟩
def b3 {α β γ δ : Type} (fa : Ev → Res α) (fb : Ev → Res β) (fc : Ev → Res γ) (h : α → β → γ → Res δ) : Ev → Res δ := fun e => (fa e).bind fun a => (fb e).bind fun b => (fc e).bind fun c => h a b c
def cutD (d : PyData) (lo hi : Option Int) : Option (List PyData) := (itemsD d).map fun ds => cutG ds lo hi
theorem cf_cut {lo hi : Option Expr} {fl fh : Ev → Res (Option Int)} {p2 : Pos} (ha : CU X W a fa) (hl : CO X W lo fl) (hh : CO X W hi fh) : CF X W (.Subscript a (.Slice lo hi none p2) pos) (b3 fa fl fh fun d lo hi => ofO (cutD d lo hi)) := (pe_slice sl_list ha hl hh).imp fun σ H Q q => by
  obtain ⟨e, lk, F, R, s, q⟩ := q
  refine ⟨e, lk, F, R, s, resOk.bind q fun a v H1 F1 f1 g1 s1 p1 q1 => ?_⟩
  refine ⟨e, lk, F1, R, s1, resOk.bind q1 fun b u H2 F2 f2 g2 s2 p2 q2 => ?_⟩
  refine ⟨e, lk, F2, R, s2, resOk.bind q2 fun c w H3 F3 f3 g3 s3 p3 q3 => ?_⟩
  cases p2
  cases p3
  try dsimp only at q3
  unfold cutD at q3
  cases hd : itemsD a with
  | none => rw [hd] at q3; exact q3.elim
  | some ds =>
    rw [hd] at q3
    obtain ⟨p, vs, rfl, hp, hr⟩ := us_items s3.fh (st_pU R _ _ _ _ _ _ (f2.trans f3) (g2.trans g3) p1) hd
    refine ⟨p, vs, rfl, hp, fun t ht => ?_⟩
    exact q3 _ _ F3 (Same.refl _) (same_upd ht) (s3.heap (same_upd ht)) ⟨t, _, rfl, upd_same, s3.newF ht, s3.newR ht, hr.cut _ _⟩
def revD (d : PyData) : Option (List PyData) := (itemsD d).map fun ds => ds.reverse
theorem cf_rev {k : Nat} {p1 p2 p3 : Pos} (ha : CU X W a fa) : CF X W (.Subscript a (.Slice none none (some (.UnaryOp .USub (.Constant (.int 1) k p1) p2)) p3) pos) (b1 fa fun d => ofO (revD d)) := (pe_revL ha).imp fun σ H Q q => by
  obtain ⟨e, lk, F, R, s, q⟩ := q
  refine ⟨e, lk, F, R, s, resOk.bind q fun a v H1 F1 f1 g1 s1 p1 q1 => ?_⟩
  unfold revD at q1
  cases hd : itemsD a with
  | none => rw [hd] at q1; exact q1.elim
  | some ds =>
    rw [hd] at q1
    obtain ⟨p, vs, rfl, hp, hr⟩ := us_items s1.fh p1 hd
    refine ⟨p, vs, rfl, hp, fun t ht => ?_⟩
    exact q1 _ _ F1 (Same.refl _) (same_upd ht) (s1.heap (same_upd ht)) ⟨t, _, rfl, upd_same, s1.newF ht, s1.newR ht, hr.rev⟩
/-! ### list + list, list * int -/
def catD (a b : PyData) : Option (List PyData) := match a, b with
  | .list xs, .list ys => if small (xs.length + ys.length) then some (xs ++ ys) else none
  | _, _ => none
theorem us_lst {K : PySem.W.Frag} {mg : Str → Option Value} {F H : Hp} {v : V} {ds : List PyData} (s : Same F H) (h : Us K mg F H v (.list ds)) : ∃ p vs, v = .ref p ∧ H p = some (.lst vs) ∧ RpA K mg F vs ds := by
  rcases h with h | ⟨p, vs, es, rfl, e, hp, hr⟩
  · cases h with
    | lst hp hr => exact ⟨_, _, rfl, s _ _ hp, hr⟩
  · cases e
    exact ⟨p, vs, rfl, hp, hr⟩
theorem cf_cat (ha : CU X W a fa) (hb : CU X W b fb) : CF X W (.BinOp a .Add b pos) (b2 fa fb fun a b => ofO (catD a b)) := (pe_op op_cat ha hb).imp fun σ H Q q => by
  obtain ⟨e, lk, F, R, s, q⟩ := q
  refine ⟨e, lk, F, R, s, resOk.bind q fun a v H1 F1 f1 g1 s1 p1 q1 => ?_⟩
  refine ⟨e, lk, F1, R, s1, resOk.bind q1 fun b u H2 F2 f2 g2 s2 p2 q2 => ?_⟩
  try dsimp only at q2
  unfold catD at q2
  split at q2
  · rename_i xs ys
    by_cases h : small (xs.length + ys.length) = true
    · rw [if_pos h] at q2
      obtain ⟨p, vs, rfl, hp, hr⟩ := us_lst s2.fh (st_pU R _ _ _ _ _ _ f2 g2 p1)
      obtain ⟨p', vs', rfl, hp', hr'⟩ := us_lst s2.fh p2
      refine ⟨p, p', vs, vs', rfl, rfl, hp, hp', by rw [hr.len, hr'.len]; exact small_le h, fun t ht => ?_⟩
      exact q2 _ _ F2 (Same.refl _) (same_upd ht) (s2.heap (same_upd ht)) ⟨t, _, rfl, upd_same, s2.newF ht, s2.newR ht, hr.app hr'⟩
    · rw [if_neg h] at q2
      exact q2.elim
  · exact q2.elim
def repD (a b : PyData) : Option (List PyData) := match a, b with
  | .list xs, .int k => if decide (-100000 ≤ k ∧ k ≤ 100000) && small (xs.length * k.toNat) then some (List.replicate k.toNat xs).flatten else none
  | _, _ => none
theorem RpA.rep {K : PySem.W.Frag} {mg : Str → Option Value} {H : Hp} {vs : List V} {ds : List PyData} (h : RpA K mg H vs ds) : ∀ k : Nat, RpA K mg H (List.replicate k vs).flatten (List.replicate k ds).flatten
  | 0 => .nil
  | k + 1 => by
    rw [List.replicate_succ, List.replicate_succ, List.flatten_cons, List.flatten_cons]
    exact h.app (RpA.rep h k)
theorem cf_rep (ha : CU X W a fa) (hb : CB X W b fb) : CF X W (.BinOp a .Mult b pos) (b2 fa fb fun a b => ofO (repD a b)) := (pe_op op_rep ha hb).imp fun σ H Q q => by
  obtain ⟨e, lk, F, R, s, q⟩ := q
  refine ⟨e, lk, F, R, s, resOk.bind q fun a v H1 F1 f1 g1 s1 p1 q1 => ?_⟩
  refine ⟨e, lk, F1, R, s1, resOk.bind q1 fun b u H2 F2 f2 g2 s2 p2 q2 => ?_⟩
  try dsimp only at q2
  unfold repD at q2
  split at q2
  · rename_i xs k
    by_cases h : (decide (-100000 ≤ k ∧ k ≤ 100000) && small (xs.length * k.toNat)) = true
    · rw [if_pos h] at q2
      rw [Bool.and_eq_true] at h
      have hk := of_decide_eq_true h.1
      obtain ⟨p, vs, rfl, hp, hr⟩ := us_lst s2.fh (st_pU R _ _ _ _ _ _ f2 g2 p1)
      cases p2
      refine ⟨p, k, vs, rfl, rfl, hp, by omega, by omega, by rw [hr.len]; exact small_le h.2, fun t ht => ?_⟩
      exact q2 _ _ F2 (Same.refl _) (same_upd ht) (s2.heap (same_upd ht)) ⟨t, _, rfl, upd_same, s2.newF ht, s2.newR ht, hr.rep _⟩
    · rw [if_neg h] at q2
      exact q2.elim
  · exact q2.elim
/-! ### list(x), list(range(..)), tuple(x) -/
theorem ca_u (h : CU X W a fa) (hs : starEach [a] X.env = (false, eval a X.env) :: starEach [] X.env) : PA X [a] (tX X.K X.mg W (pA (pU X.K X.mg)) (aCons fa aNil)) := a_cons st_pU h a_nil hs
def listD : PyData → Option (List PyData)
  | .list ds => some ds
  | .tuple ds => some ds
  | .dict [(.bool true, .list ds)] => some ds
  | _ => none
theorem us_list {K : PySem.W.Frag} {mg : Str → Option Value} {F H : Hp} {v : V} {d : PyData} {ds : List PyData} (s : Same F H) (h : Us K mg F H v d) (e : listD d = some ds) : ∃ p vs, v = .ref p ∧ (SqL K H p vs ∨ SqT K H p vs) ∧ RpA K mg F vs ds := by
  rcases h with h | ⟨p, vs, es, rfl, rfl, hp, hr⟩
  · cases h with
    | lst hp hr =>
      cases e
      exact ⟨_, _, rfl, .inl (SqL.of (s _ _ hp)), hr⟩
    | tup hp hr =>
      cases e
      exact ⟨_, _, rfl, .inr (SqT.of (s _ _ hp)), hr⟩
    | @scr p ns hs =>
      cases e
      exact ⟨p, _, rfl, .inl (s.seq hs), RpA.of_ints ns⟩
    | _ => cases e
  · cases e
    exact ⟨p, vs, rfl, .inl (SqL.of hp), hr⟩
theorem cf_list {p : Pos} (hg : Gl X "list") (hm : X.mg "list" = none) (ha : CU X W a fa) (he : starEach [a] X.env = (false, eval a X.env) :: starEach [] X.env := by rfl) (hpl : (backTo pos (starEach [] X.env)).any (·.1) = false := by rfl) :
    CF X W (.Call (.Name "list" p) [a] [] pos) (b1 fa fun d => ofO (listD d)) := (pe_callTy call_list_of hg hm (by decide +kernel) (ca_u ha he) (by decide) (by decide) he hpl).imp fun σ H Q q => by
  obtain ⟨e, lk, F, R, s, q⟩ := q
  refine ⟨e, lk, F, R, s, ?_⟩
  have q' : resOk X.K X.mg W lk F R σ H e (pF X.K X.mg) Q ((aCons fa aNil e).bind fun ds => match ds with | [d] => ofO (listD d) | _ => .no) := by
    unfold b1 at q
    unfold aCons aNil
    cases hf : fa e with
    | ok d => rw [hf] at q; exact q
    | ex c => rw [hf] at q; exact q
    | no => rw [hf] at q; exact q
  refine resOk.bind q' fun ds vs H1 F1 f1 g1 s1 p1 q1 => ?_
  cases p1 with
  | nil => exact q1.elim
  | cons h t =>
    cases t with
    | cons _ _ => exact q1.elim
    | nil =>
      rename_i v d
      dsimp only at q1
      cases hd : listD d with
      | none => rw [hd] at q1; exact q1.elim
      | some ds =>
        rw [hd] at q1
        obtain ⟨p, vs, rfl, hp, hr⟩ := us_list s1.fh h hd
        refine ⟨p, vs, rfl, hp, fun t ht => ?_⟩
        exact q1 _ _ F1 (Same.refl _) (same_upd ht) (s1.heap (same_upd ht)) ⟨t, _, rfl, upd_same, s1.newF ht, s1.newR ht, hr⟩
def rgL (lo hi : Int) : List PyData := (List.range (hi - lo).toNat).map fun (i : Nat) => .int (lo + (i : Nat))
def rgD1 : PyData → Option (List PyData)
  | .int n => if decide (-100000 ≤ n ∧ n ≤ 100000) then some (rgL 0 n) else none
  | _ => none
def rgD2 (a b : PyData) : Option (List PyData) := match a, b with
  | .int i, .int j => if decide (0 ≤ i ∧ i ≤ 100000 ∧ 0 ≤ j ∧ j ≤ 100000) then some (rgL i j) else none
  | _, _ => none
theorem rpA_rg {K : PySem.W.Frag} {mg : Str → Option Value} {H : Hp} (lo hi : Int) : RpA K mg H (rgV lo hi) (rgL lo hi) := by
  unfold rgV rgL
  generalize List.range (hi - lo).toNat = l
  induction l with
  | nil => exact .nil
  | cons i l ih => exact .cons (.int _) ih
theorem cf_listRg1 {p p2 p3 : Pos} (hc : X.calm = true) (hg : Gl X "list") (hm : X.mg "list" = none) (hg2 : Gl X "range") (hm2 : X.mg "range" = none) (ha : CB X W a fa)
    (na : starEach [a] X.env = (false, eval a X.env) :: starEach [] X.env := by rfl) (nb : starEach [.Call (.Name "range" p2) [a] [] p3] X.env = (false, eval (.Call (.Name "range" p2) [a] [] p3) X.env) :: starEach [] X.env := by rfl) :
    CF X W (.Call (.Name "list" p) [.Call (.Name "range" p2) [a] [] p3] [] pos) (b1 fa fun d => match d with | .int n => (if decide (0 ≤ n ∧ n ≤ 100000) then .ok (rgL 0 n) else .no) | _ => .no) :=
  (pe_listRg hc hg hm (prg_1 hg2 hm2 ha na) nb).imp fun σ H Q q => by
  obtain ⟨e, lk, F, R, s, q⟩ := q
  refine ⟨e, lk, F, R, s, resOk.bind q fun a v H1 F1 f1 g1 s1 p1 q1 => ?_⟩
  cases p1 with
  | int n =>
    dsimp only at q1
    by_cases h : decide (0 ≤ n ∧ n ≤ 100000) = true
    · rw [if_pos h] at q1
      have hn := of_decide_eq_true h
      refine ⟨n, rfl, RgOk.of_le (by omega) (by omega) (by omega) (by omega), fun t ht => ?_⟩
      exact q1 _ _ F1 (Same.refl _) (same_upd ht) (s1.heap (same_upd ht)) ⟨t, _, rfl, upd_same, s1.newF ht, s1.newR ht, rpA_rg _ _⟩
    · rw [if_neg h] at q1
      exact q1.elim
  | _ => exact q1.elim
def tupD : PyData → Option PyData
  | .list ds => some (.tuple ds)
  | _ => none
end
end VL
end
section
set_option Elab.async false
set_option linter.all false
set_option maxRecDepth 100000
set_option autoImplicit false
set_option maxHeartbeats 4000000
/-! The value layer: what is walked, targets, comprehensions. -/
namespace VL
open PySem PySem.Spec PyProof.Rows L2

/-! ### what is walked -/
/-- a turn's value: an item as it stands, or a new pair -/
def Yl (K : PySem.W.Frag) (mg : Str → Option Value) (F H : Hp) (x : V) (H' : Hp) (d : PyData) : Prop :=
  (H' = H ∧ Rp K mg F x d) ∨ ∃ T x1 x2 d1 d2, x = .ref T ∧ H T = none ∧ H' = upd H T (.tup [x1, x2]) ∧ d = .tuple [d1, d2] ∧ Rp K mg F x1 d1 ∧ Rp K mg F x2 d2
structure ItOk (K : PySem.W.Frag) (mg : Str → Option Value) (F : Hp) (Pm : Hp → Prop) (J : It) (ds : List PyData) : Prop where
  go : ∀ i H, Pm H → i < ds.length → J.go i H
  stop : ∀ H, Pm H → J.stop ds.length H
  yld : ∀ i H x H', Pm H → i < ds.length → J.yld i H x H' → ∃ d, ds[i]? = some d ∧ Yl K mg F H x H' d
def pI (K : PySem.W.Frag) (mg : Str → Option Value) : Post It (List PyData) := fun _ F _ J ds => ItOk K mg F (fun H => Same F H) J ds
def pJ (K : PySem.W.Frag) (mg : Str → Option Value) : Post It (List PyData) := fun R F _ J ds => ItOk K mg F (fun H => Same F H ∧ ∀ i, Same (R (.sl i)) H) J ds
theorem _root_.L2.PI.imp {X : Cx} {tg iter : Expr} {t t' : TI} (h : PI X tg iter t) (k : ∀ σ H R, t' σ H R → t σ H R) : PI X tg iter t' := ⟨fun pins s σ H R I q => h.run pins s σ H R I (k σ H R q)⟩
abbrev CI (X : Cx) (W : WX) (tg x : Expr) (f : Ev → Res (List PyData)) : Prop := PI X tg x (tX X.K X.mg W (pI X.K X.mg) f)
abbrev CJ (X : Cx) (W : WX) (tg x : Expr) (f : Ev → Res (List PyData)) : Prop := PI X tg x (tX X.K X.mg W (pJ X.K X.mg) f)
section
variable {X : Cx} {W : WX} {tg a b : Expr} {fa fb : Ev → Res PyData} {fr : Ev → Res (List PyData)} {pos p : Pos}
theorem cj_i (h : CI X W tg a fr) : CJ X W tg a fr := h.imp fun σ H Q q => by
  obtain ⟨e, lk, F, R, s, q⟩ := q
  exact ⟨e, lk, F, R, s, q.to fun _ _ _ _ _ _ p => ⟨fun i H g h => p.go i H g.1 h, fun H g => p.stop H g.1, fun i H x H' g h y => p.yld i H x H' g.1 h y⟩⟩
def asL : PyData → Res (List PyData)
  | .list ds => .ok ds
  | _ => .no
def asT : PyData → Res (List PyData)
  | .tuple ds => .ok ds
  | _ => .no
theorem it_list {K : PySem.W.Frag} {mg : Str → Option Value} {F : Hp} {Pm : Hp → Prop} {p : Addr} {vs : List V} {ds : List PyData} (hp : ∀ H, Pm H → H p = some (.lst vs)) (hr : RpA K mg F vs ds) : ItOk K mg F Pm (Itl K p) ds where
  go := fun i H g h => by
    have hi : i < vs.length := by rw [hr.len]; exact h
    exact ⟨vs, vs[i], SqL.of (hp H g), List.getElem?_eq_getElem hi⟩
  stop := fun H g => ⟨vs, SqL.of (hp H g), by rw [hr.len]; exact Nat.le_refl _⟩
  yld := fun i H x H' g h y => by
    obtain ⟨rfl, y⟩ := y
    have e := y vs (SqL.of (hp _ g))
    obtain ⟨d, hd, hx⟩ := hr.getV e
    exact ⟨d, hd, .inl ⟨rfl, hx⟩⟩
theorem ci_list (h : CE X W a fa) : CI X W tg a (b1 fa asL) := (pi_list h).imp fun σ H Q q => by
  obtain ⟨e, lk, F, R, s, q⟩ := q
  refine ⟨e, lk, F, R, s, resOk.bind q fun d v H1 F1 f1 g1 s1 p1 q1 => ?_⟩
  cases p1 with
  | @lst p vs ds hp hr => exact ⟨p, rfl, ⟨vs, SqL.of (s1.fh _ _ hp)⟩, q1.fin s1 (it_list (fun H g => g _ _ hp) hr)⟩
  | _ => exact q1.elim
/-- over a list of the frame's own: in a comprehension -/
theorem cj_own {i : Nat} (h : PE X a (tVar i)) : CJ X W tg a (b1 (uVar i) asL) := (pi_list h).imp fun σ H Q q => by
  obtain ⟨e, lk, F, R, s, r⟩ := q
  have sa := s.at_ i
  unfold b1 uVar at r
  cases he : e[i]? with
  | none => rw [he] at r; exact r.elim
  | some z =>
    rw [he] at r
    have sz := sa z he
    cases z with
    | fz d =>
      obtain ⟨v, hv, hr⟩ := sz
      cases hr with
      | @lst p vs ds hp hr => exact ⟨_, hv, p, rfl, ⟨vs, SqL.of (s.fh _ _ hp)⟩, r.fin s (it_list (fun H g => g.1 _ _ hp) hr)⟩
      | _ => exact r.elim
    | no => exact r.elim
    | ow ds =>
      obtain ⟨p, vs, hv, hr, ha⟩ := sz
      exact ⟨_, hv, p, rfl, ⟨vs, SqL.of (s.rh (.sl i) _ _ (by rw [hr, one_same]))⟩, r.fin s (it_list (fun H g => g.2 i _ _ (by rw [hr, one_same])) ha)⟩
    | hd ds =>
      obtain ⟨p, vs, _, hv, hr, ha⟩ := sz
      exact ⟨_, hv, p, rfl, ⟨vs, SqL.of (s.rh (.sl i) _ _ (by rw [hr, one_same]))⟩, r.fin s (it_list (fun H g => g.2 i _ _ (by rw [hr, one_same])) ha)⟩
    | rg _ => exact r.elim
    | ob _ => exact r.elim
    | sf _ => exact r.elim
theorem ci_tup (h : CE X W a fa) : CI X W tg a (b1 fa asT) := (pi_tup h).imp fun σ H Q q => by
  obtain ⟨e, lk, F, R, s, q⟩ := q
  refine ⟨e, lk, F, R, s, resOk.bind q fun d v H1 F1 f1 g1 s1 p1 q1 => ?_⟩
  cases p1 with
  | @tup p vs ds hp hr =>
    refine ⟨p, rfl, ⟨vs, SqT.of (s1.fh _ _ hp)⟩, q1.fin s1 ⟨fun i H g h => ?_, fun H g => ?_, fun i H x H' g h y => ?_⟩⟩
    · have hi : i < vs.length := by rw [hr.len]; exact h
      exact ⟨vs, vs[i], SqT.of (g _ _ hp), List.getElem?_eq_getElem hi⟩
    · exact ⟨vs, SqT.of (g _ _ hp), by rw [hr.len]; exact Nat.le_refl _⟩
    · obtain ⟨rfl, y⟩ := y
      have e := y vs (SqT.of (g _ _ hp))
      obtain ⟨d, hd, hx⟩ := hr.getV e
      exact ⟨d, hd, .inl ⟨rfl, hx⟩⟩
  | _ => exact q1.elim
theorem it_range {K : PySem.W.Frag} {mg : Str → Option Value} {F : Hp} {Pm : Hp → Prop} (lo hi : Int) : ItOk K mg F Pm (Itr lo (hi - lo).toNat) (rgL lo hi) where
  go := fun i H g h => by
    unfold rgL at h
    rw [List.length_map, List.length_range] at h
    exact h
  stop := fun H g => by
    show (hi - lo).toNat ≤ (rgL lo hi).length
    unfold rgL
    rw [List.length_map, List.length_range]
    exact Nat.le_refl _
  yld := fun i H x H' g h y => by
    obtain ⟨rfl, rfl⟩ := y
    unfold rgL at h
    rw [List.length_map, List.length_range] at h
    refine ⟨.int (lo + (i : Nat)), ?_, .inl ⟨rfl, .int _⟩⟩
    unfold rgL
    rw [List.getElem?_map, List.getElem?_range h]
    rfl
def rgA1 : List PyData → Option (List PyData)
  | [.int n] => if decide (-100000 ≤ n ∧ n ≤ 100000) then some (rgL 0 n) else none
  | _ => none
def rgA2 : List PyData → Option (List PyData)
  | [.int i, .int j] => if decide (-100000 ≤ i ∧ i ≤ 100000 ∧ -100000 ≤ j ∧ j ≤ 100000) then some (rgL i j) else none
  | _ => none
theorem ci_range1 (hg : Gl X "range") (hm : X.mg "range" = none) (ha : CAB X W [a] fr) (hs : starEach [a] X.env = [(false, eval a X.env)] := by rfl) : CI X W tg (.Call (.Name "range" p) [a] [] pos) (b1 fr fun ds => ofO (rgA1 ds)) := (pi_range1 hg hm ha hs).imp fun σ H Q q => by
  obtain ⟨e, lk, F, R, s, q⟩ := q
  refine ⟨e, lk, F, R, s, resOk.bind q fun ds vs H1 F1 f1 g1 s1 p1 q1 => ?_⟩
  have p2 := RpA.of_paired p1
  unfold rgA1 at q1
  split at q1
  · rename_i n
    obtain ⟨v, rfl, h⟩ := p2.one
    cases h
    by_cases h : decide (-100000 ≤ n ∧ n ≤ 100000) = true
    · rw [if_pos h] at q1
      have hn := of_decide_eq_true h
      refine ⟨n, rfl, by omega, by omega, q1.fin s1 ?_⟩
      have := it_range (K := X.K) (mg := X.mg) (F := F1) (Pm := fun H => Same F1 H) 0 n
      rw [Int.sub_zero] at this
      exact this
    · rw [if_neg h] at q1
      exact q1.elim
  · exact q1.elim
theorem ci_range2 (hg : Gl X "range") (hm : X.mg "range" = none) (ha : CAB X W [a, b] fr) (hs : starEach [a, b] X.env = [(false, eval a X.env), (false, eval b X.env)] := by rfl) (hs2 : starEach [b] X.env = [(false, eval b X.env)] := by rfl) :
    CI X W tg (.Call (.Name "range" p) [a, b] [] pos) (b1 fr fun ds => ofO (rgA2 ds)) := (pi_range2 hg hm ha hs hs2).imp fun σ H Q q => by
  obtain ⟨e, lk, F, R, s, q⟩ := q
  refine ⟨e, lk, F, R, s, resOk.bind q fun ds vs H1 F1 f1 g1 s1 p1 q1 => ?_⟩
  have p2 := RpA.of_paired p1
  unfold rgA2 at q1
  split at q1
  · rename_i i j
    obtain ⟨v, v', rfl, h, h'⟩ := p2.two
    cases h
    cases h'
    by_cases h : decide (-100000 ≤ i ∧ i ≤ 100000 ∧ -100000 ≤ j ∧ j ≤ 100000) = true
    · rw [if_pos h] at q1
      have hn := of_decide_eq_true h
      exact ⟨i, j, rfl, ⟨by omega, by omega, by omega, by omega⟩, q1.fin s1 (it_range i j)⟩
    · rw [if_neg h] at q1
      exact q1.elim
  · exact q1.elim
/-! ### enumerate, zip, reversed -/
def enD : List PyData → Option (List PyData)
  | [.list ds] => some (ds.mapIdx fun i d => .tuple [.int (i : Nat), d])
  | _ => none
theorem ci_enum {elts : List Expr} {kk : Nat} {tpos : Pos} (hg : Gl X "enumerate") (hm : X.mg "enumerate" = none) (ha : CAE X W [a] fr) (hs : starEach [a] X.env = [(false, eval a X.env)] := by rfl) :
    CI X W (.Tuple elts kk tpos) (.Call (.Name "enumerate" p) [a] [] pos) (b1 fr fun ds => ofO (enD ds)) := (pi_enum hg hm ha hs).imp fun σ H Q q => by
  obtain ⟨e, lk, F, R, s, q⟩ := q
  refine ⟨e, lk, F, R, s, resOk.bind q fun ds vs H1 F1 f1 g1 s1 p1 q1 => ?_⟩
  have p2 := RpA.of_paired p1
  unfold enD at q1
  split at q1
  · rename_i es
    obtain ⟨v, rfl, h⟩ := p2.one
    cases h with
    | @lst p vs ds hp hr =>
      refine ⟨p, vs, rfl, SqL.of (s1.fh _ _ hp), q1.fin s1 ⟨fun i H g h => ?_, fun H g => ?_, fun i H x H' g h y => ?_⟩⟩
      · rw [List.length_mapIdx] at h
        have hi : i < vs.length := by rw [hr.len]; exact h
        exact ⟨vs, vs[i], SqL.of (g _ _ hp), List.getElem?_eq_getElem hi⟩
      · refine ⟨vs, SqL.of (g _ _ hp), ?_⟩
        rw [List.length_mapIdx, hr.len]
        exact Nat.le_refl _
      · rw [List.length_mapIdx] at h
        obtain ⟨T, x', rfl, nT, rfl, y⟩ := y
        have e := y vs (SqL.of (g _ _ hp))
        obtain ⟨d, hd, hx⟩ := hr.getV e
        refine ⟨.tuple [.int (i : Nat), d], ?_, .inr ⟨T, .int (i : Nat), x', .int (i : Nat), d, rfl, nT, rfl, rfl, .int _, hx⟩⟩
        rw [List.getElem?_mapIdx, hd]
        rfl
  · exact q1.elim
def zipP : List PyData → List PyData → List PyData
  | a :: as, b :: bs => .tuple [a, b] :: zipP as bs
  | _, _ => []
theorem zipP_len : ∀ as bs : List PyData, (zipP as bs).length = min as.length bs.length
  | [], _ => by simp [zipP]
  | _ :: _, [] => by simp [zipP]
  | a :: as, b :: bs => by
    simp only [zipP, List.length_cons]
    rw [zipP_len as bs]
    omega
theorem zipP_get : ∀ (as bs : List PyData) (i : Nat) (a b : PyData), as[i]? = some a → bs[i]? = some b → (zipP as bs)[i]? = some (.tuple [a, b])
  | [], _, _, _, _, h, _ => by simp at h
  | _ :: _, [], _, _, _, _, h => by simp at h
  | a :: as, b :: bs, 0, _, _, h, h' => by
    simp at h h'
    subst h h'
    rfl
  | a :: as, b :: bs, i + 1, x, y, h, h' => by
    show (zipP as bs)[i]? = _
    exact zipP_get as bs i x y (by simpa using h) (by simpa using h')
def ziD : List PyData → Option (List PyData)
  | [.list as, .list bs] => some (zipP as bs)
  | _ => none
theorem ci_zip {elts : List Expr} {kk : Nat} {tpos : Pos} (hg : Gl X "zip") (hm : X.mg "zip" = none) (ha : CAE X W [a, b] fr)
    (hs : starEach [a, b] X.env = (false, eval a X.env) :: starEach [b] X.env := by rfl) (hpl : (backTo pos (starEach [b] X.env)).any (·.1) = false := by rfl) :
    CI X W (.Tuple elts kk tpos) (.Call (.Name "zip" p) [a, b] [] pos) (b1 fr fun ds => ofO (ziD ds)) := (pi_zip hg hm ha hs hpl).imp fun σ H Q q => by
  obtain ⟨e, lk, F, R, s, q⟩ := q
  refine ⟨e, lk, F, R, s, resOk.bind q fun ds vs H1 F1 f1 g1 s1 p1 q1 => ?_⟩
  have p2 := RpA.of_paired p1
  unfold ziD at q1
  split at q1
  · rename_i as bs
    obtain ⟨v, v', rfl, h, h'⟩ := p2.two
    cases h with
    | @lst p vs ds hp hr =>
      cases h' with
      | @lst p' vs' ds' hp' hr' =>
        refine ⟨p, p', vs, vs', rfl, SqL.of (s1.fh _ _ hp), SqL.of (s1.fh _ _ hp'), q1.fin s1 ⟨fun i H g h => ?_, fun H g => ?_, fun i H x H' g h y => ?_⟩⟩
        · rw [zipP_len] at h
          have hi : i < vs.length := by rw [hr.len]; omega
          have hi' : i < vs'.length := by rw [hr'.len]; omega
          exact ⟨vs, vs', vs[i], vs'[i], SqL.of (g _ _ hp), SqL.of (g _ _ hp'), List.getElem?_eq_getElem hi, List.getElem?_eq_getElem hi'⟩
        · refine ⟨vs, vs', SqL.of (g _ _ hp), SqL.of (g _ _ hp'), ?_⟩
          rw [zipP_len, hr.len, hr'.len]
          omega
        · obtain ⟨T, x1, x2, rfl, nT, rfl, y1, y2⟩ := y
          obtain ⟨d1, hd1, hx1⟩ := hr.getV (y1 vs (SqL.of (g _ _ hp)))
          obtain ⟨d2, hd2, hx2⟩ := hr'.getV (y2 vs' (SqL.of (g _ _ hp')))
          exact ⟨.tuple [d1, d2], zipP_get _ _ _ _ _ hd1 hd2, .inr ⟨T, x1, x2, d1, d2, rfl, nT, rfl, rfl, hx1, hx2⟩⟩
  · exact q1.elim
def rvD : List PyData → Option (List PyData)
  | [.list ds] => some ds.reverse
  | _ => none
theorem ci_rev (hg : Gl X "reversed") (hm : X.mg "reversed" = none) (ha : CAE X W [a] fr) (hs : starEach [a] X.env = [(false, eval a X.env)] := by rfl) :
    CI X W tg (.Call (.Name "reversed" p) [a] [] pos) (b1 fr fun ds => ofO (rvD ds)) := (pi_reversed hg hm ha hs).imp fun σ H Q q => by
  obtain ⟨e, lk, F, R, s, q⟩ := q
  refine ⟨e, lk, F, R, s, resOk.bind q fun ds vs H1 F1 f1 g1 s1 p1 q1 => ?_⟩
  have p2 := RpA.of_paired p1
  unfold rvD at q1
  split at q1
  · rename_i es
    obtain ⟨v, rfl, h⟩ := p2.one
    cases h with
    | @lst p vs ds hp hr =>
      refine ⟨p, vs, rfl, SqL.of (s1.fh _ _ hp), q1.fin s1 ⟨fun i H g h => ?_, fun H g => ?_, fun i H x H' g h y => ?_⟩⟩
      · rw [List.length_reverse] at h
        have hi : i < vs.length := by rw [hr.len]; exact h
        exact ⟨hi, vs, vs[vs.length - 1 - i], SqL.of (g _ _ hp), List.getElem?_eq_getElem (by omega)⟩
      · show vs.length ≤ _
        rw [List.length_reverse, hr.len]
        exact Nat.le_refl _
      · rw [List.length_reverse] at h
        obtain ⟨rfl, y⟩ := y
        have e := y vs (SqL.of (g _ _ hp))
        obtain ⟨d, hd, hx⟩ := hr.getV e
        refine ⟨d, ?_, .inl ⟨rfl, hx⟩⟩
        rw [List.getElem?_reverse h]
        rw [hr.len] at hd
        exact hd
  · exact q1.elim
end

/-! ### targets -/
inductive Tg where
  | nm (i : Nat)
  | tp (is : List Nat)
def gNames : List Nat → TGs
  | [] => gNil
  | i :: is => gCons (gName i) (gNames is)
def gOf (K : PySem.W.Frag) : Tg → TG
  | .nm i => gName i
  | .tp is => gTup K is.length (gNames is)
def Tg.ids : Tg → List Nat
  | .nm i => [i]
  | .tp is => is
def setsE : Ev → List Nat → List PyData → Ev
  | e, i :: is, d :: ds => setsE (e.set i (.fz d)) is ds
  | e, _, _ => e
def tgSet : Tg → PyData → Ev → Option Ev
  | .nm i, d, e => some (e.set i (.fz d))
  | .tp is, .tuple ds, e => if ds.length = is.length then some (setsE e is ds) else none
  | _, _, _ => none
def KeepR (R R' : Ix → Hp) : Prop := R' .base = R .base ∧ ∀ a, R' (.hid a) = R (.hid a)
theorem KeepR.refl (R : Ix → Hp) : KeepR R R := ⟨rfl, fun _ => rfl⟩
theorem KeepR.trans {R R1 R2 : Ix → Hp} (a : KeepR R R1) (b : KeepR R1 R2) : KeepR R R2 := ⟨b.1.trans a.1, fun x => (b.2 x).trans (a.2 x)⟩
section
variable {K : PySem.W.Frag} {mg : Str → Option Value} {lk : Nat → Option (Addr × List V)} {F F' H H' : Hp} {R : Ix → Hp} {σ : Sg} {e : Ev}
/-- a slot takes a value that stands still -/
theorem SR.setF (s : SR K mg lk F R σ H e) (i : Nat) {v : V} {d : PyData} (h : Rp K mg F v d) : SR K mg lk F R (σ.set i (some v)) H (e.set i (.fz d)) where
  len := by rw [List.length_set, List.length_set]; exact s.len
  fh := s.fh
  rh := s.rh
  rr := s.rr
  rf := s.rf
  hid := s.hid
  at_ := fun j x q => by
    by_cases hj : i = j
    · subst hj
      have hl : i < e.length := by
        have := (List.getElem?_eq_some_iff.mp q).1
        rwa [List.length_set] at this
      rw [List.getElem?_set_self hl] at q
      cases q
      exact ⟨v, List.getElem?_set_self (by rw [← s.len]; exact hl), h⟩
    · rw [List.getElem?_set_ne hj] at q
      rw [List.getElem?_set_ne hj]
      exact s.at_ j x q
/-- a slot is forgotten -/
theorem SR.setN (s : SR K mg lk F R σ H e) (i : Nat) : SR K mg lk F R σ H (e.set i .no) where
  len := by rw [List.length_set]; exact s.len
  fh := s.fh
  rh := s.rh
  rr := s.rr
  rf := s.rf
  hid := s.hid
  at_ := fun j x q => by
    by_cases hj : i = j
    · subst hj
      have hl : i < e.length := by
        have := (List.getElem?_eq_some_iff.mp q).1
        rwa [List.length_set] at this
      rw [List.getElem?_set_self hl] at q
      cases q
      trivial
    · rw [List.getElem?_set_ne hj] at q
      exact s.at_ j x q
def killS (vs : List Nat) (e : Ev) : Ev := vs.foldl (fun e i => e.set i .no) e
theorem SR.kill : ∀ (vs : List Nat) {e : Ev}, SR K mg lk F R σ H e → SR K mg lk F R σ H (killS vs e)
  | [], _, s => s
  | i :: vs, _, s => SR.kill vs (s.setN i)
theorem killS_len : ∀ (vs : List Nat) (e : Ev), (killS vs e).length = e.length
  | [], _ => rfl
  | i :: vs, e => by
    show (killS vs (e.set i .no)).length = _
    rw [killS_len vs, List.length_set]
theorem killS_get : ∀ (vs : List Nat) (e : Ev) (j : Nat) (x : Slot), (killS vs e)[j]? = some x → x = .no ∨ (j ∉ vs ∧ e[j]? = some x)
  | [], e, j, x, h => .inr ⟨by simp, h⟩
  | i :: vs, e, j, x, h => by
    rcases killS_get vs (e.set i .no) j x h with q | ⟨q, g⟩
    · exact .inl q
    · by_cases hj : i = j
      · subst hj
        have hl : i < e.length := by
          have := (List.getElem?_eq_some_iff.mp g).1
          rwa [List.length_set] at this
        rw [List.getElem?_set_self hl] at g
        exact .inl (Option.some.inj g).symm
      · rw [List.getElem?_set_ne hj] at g
        exact .inr ⟨fun m => by
          rcases List.mem_cons.mp m with m | m
          · exact hj m.symm
          · exact q m, g⟩
theorem wipe_set_in {σ : Sg} {i : Nat} {x : Option V} : ∀ {vs : List Nat}, i ∈ vs → wipe (σ.set i x) vs = wipe σ vs
  | [], h => by cases h
  | v :: vs, h => by
    unfold wipe
    by_cases hv : i ∈ vs
    · rw [wipe_set_in hv]
    · have : i = v := by
        rcases List.mem_cons.mp h with e | e
        · exact e
        · exact absurd e hv
      subst this
      have aux : ∀ (us : List Nat) (σ : Sg), i ∉ us → (wipe (σ.set i x) us).set i none = (wipe σ us).set i none := by
        intro us
        induction us with
        | nil => intro σ _; unfold wipe; rw [List.set_set]
        | cons u us ih =>
          intro σ hn
          unfold wipe
          have h1 : i ≠ u := fun e => hn (by rw [e]; exact List.mem_cons_self)
          rw [List.set_comm _ _ (Ne.symm h1), ih σ fun m => hn (List.mem_cons_of_mem _ m), List.set_comm _ _ h1]
      exact aux vs σ hv
theorem sets_run {Q : Sg → Hp → Prop} {σ0 : Sg} {all : List Nat} : ∀ (is : List Nat) (ds : List PyData) (vs : List V) {σ : Sg} {e : Ev}, SR K mg lk F R σ H e → (∀ us, (∀ i ∈ all, i ∈ us) → wipe σ us = wipe σ0 us) →
    (∀ i ∈ is, i ∈ all) → RpA K mg F vs ds → ds.length = is.length →
    (∀ σ', (∀ us, (∀ i ∈ all, i ∈ us) → wipe σ' us = wipe σ0 us) → SR K mg lk F R σ' H (setsE e is ds) → Q σ' H) → gNames is vs σ H Q
  | [], ds, vs, σ, e, s, w, m, h, hl, q => by
    cases ds with
    | cons _ _ => simp at hl
    | nil =>
      cases h
      exact ⟨rfl, q σ w s⟩
  | i :: is, ds, vs, σ, e, s, w, m, h, hl, q => by
    cases ds with
    | nil => simp at hl
    | cons d ds =>
      cases h with
      | cons h t =>
        refine ⟨_, _, rfl, ?_⟩
        refine sets_run is ds _ (s.setF i h) (fun us hu => ?_) (fun j hj => m j (List.mem_cons_of_mem _ hj)) t (by simpa using hl) q
        rw [wipe_set_in (hu i (m i List.mem_cons_self))]
        exact w us hu
theorem tg_run {Q : Sg → Hp → Prop} {t : Tg} {v : V} {d : PyData} {e' : Ev} (s : SR K mg lk F R σ H e) (h : Rp K mg F v d) (ht : tgSet t d e = some e')
    (q : ∀ σ', (∀ us, (∀ i ∈ t.ids, i ∈ us) → wipe σ' us = wipe σ us) → SR K mg lk F R σ' H e' → Q σ' H) : gOf K t v σ H Q := by
  cases t with
  | nm i =>
    cases ht
    exact q _ (fun us hu => wipe_set_in (hu i (List.mem_singleton.mpr rfl))) (s.setF i h)
  | tp is =>
    cases h with
    | @tup a vs ds hp hr =>
      simp only [tgSet] at ht
      by_cases hl : ds.length = is.length
      · rw [if_pos hl] at ht
        cases ht
        refine ⟨a, vs, rfl, SqT.of (s.fh _ _ hp), by rw [hr.len, hl], ?_⟩
        exact sets_run is ds vs s (fun _ _ => rfl) (fun _ h => h) hr hl q
      · rw [if_neg hl] at ht
        cases ht
    | _ => cases ht
end
end VL
end
section
set_option Elab.async false
set_option linter.all false
set_option maxRecDepth 100000
set_option autoImplicit false
set_option maxHeartbeats 4000000
/-! The value layer: comprehensions. -/
namespace VL
open PySem PySem.Spec PyProof.Rows L2

def lcL (t : Tg) (ft : Ev → Res Bool) (fe : Ev → Res PyData) : List PyData → Ev → Res (List PyData)
  | [], _ => .ok []
  | d :: ds, e => match tgSet t d e with
    | none => .no
    | some e1 => match ft e1 with
      | .ok true => (match fe e1 with
        | .ok y => (lcL t ft fe ds e).bind fun ys => .ok (y :: ys)
        | _ => .no)
      | .ok false => lcL t ft fe ds e
      | _ => .no
def lcF (t : Tg) (vs : List Nat) (fi : Ev → Res (List PyData)) (ft : Ev → Res Bool) (fe : Ev → Res PyData) : Ev → Res (List PyData) := fun e =>
  (fi e).bind fun ds => if small ds.length then lcL t ft fe ds (killS vs e) else .no
abbrev W0 : WX := fun _ _ _ _ => False
section
variable {K : PySem.W.Frag} {mg : Str → Option Value} {lk : Nat → Option (Addr × List V)} {F F' H H' : Hp} {R : Ix → Hp} {σ : Sg} {e : Ev}
theorem SR.wipe (s : SR K mg lk F R σ H e) (vs : List Nat) : SR K mg lk F R (wipe σ vs) H (killS vs e) where
  len := by rw [killS_len, wipe_length]; exact s.len
  fh := s.fh
  rh := s.rh
  rr := s.rr
  rf := s.rf
  hid := s.hid
  at_ := fun j x q => by
    rcases killS_get vs e j x q with rfl | ⟨hn, g⟩
    · trivial
    · rw [wipe_out hn]
      exact s.at_ j x g
def hidR (R : Ix → Hp) (D : Addr) (o : HO) : Ix → Hp := fun j => if j = .hid D then one D o else R j
theorem hidR_same {R : Ix → Hp} {D : Addr} {o : HO} : hidR R D o (.hid D) = one D o := by unfold hidR; rw [if_pos rfl]
theorem hidR_ne {R : Ix → Hp} {D : Addr} {o : HO} {j : Ix} (h : j ≠ .hid D) : hidR R D o j = R j := by unfold hidR; rw [if_neg h]
/-- an object of its own, kept aside -/
theorem SR.aside (s : SR K mg lk F R σ H e) {D : Addr} {o : HO} (hD : H D = some o) (nf : F D = none) (nr : ∀ j, j ≠ .hid D → R j D = none) : SR K mg lk F (hidR R D o) σ H e where
  len := s.len
  fh := s.fh
  rh := fun j => by
    by_cases h : j = .hid D
    · subst h
      rw [hidR_same]
      intro b u q
      obtain ⟨rfl, rfl⟩ := one_at q
      exact hD
    · rw [hidR_ne h]
      exact s.rh j
  rr := fun j k a hn q => by
    by_cases h : j = .hid D
    · subst h
      rw [hidR_same] at q
      have := one_ne q
      subst this
      rw [hidR_ne (Ne.symm hn)]
      exact nr k (Ne.symm hn)
    · rw [hidR_ne h] at q
      by_cases h' : k = .hid D
      · subst h'
        rw [hidR_same]
        unfold one
        split
        · rename_i e
          subst e
          exact absurd (nr j h) q
        · rfl
      · rw [hidR_ne h']
        exact s.rr j k a hn q
  rf := fun j a q => by
    by_cases h : j = .hid D
    · subst h
      rw [hidR_same] at q
      have := one_ne q
      subst this
      exact nf
    · rw [hidR_ne h] at q
      exact s.rf j a q
  hid := fun D' a q => by
    by_cases h : Ix.hid D' = .hid D
    · cases h
      rw [hidR_same] at q
      exact one_ne q
    · rw [hidR_ne h] at q
      exact s.hid D' a q
  at_ := fun i x q => by
    rw [hidR_ne (by intro h; cases h)]
    exact s.at_ i x q
theorem hidR_up {R : Ix → Hp} {D : Addr} {o u : HO} : hidR (hidR R D o) D u = hidR R D u := by
  funext j
  unfold hidR
  split <;> rfl
/-- the object aside changes -/
theorem SR.asideSet {D : Addr} {o u : HO} (s : SR K mg lk F (hidR R D o) σ H e) : SR K mg lk F (hidR R D u) σ (upd H D u) e := by
  have nf : F D = none := s.rf (.hid D) D (by rw [hidR_same, one_same]; intro h; cases h)
  have nr : ∀ j, j ≠ .hid D → R j D = none := fun j hj => by
    have := s.rr (.hid D) j D (Ne.symm hj) (by rw [hidR_same, one_same]; intro h; cases h)
    rwa [hidR_ne hj] at this
  have s1 : SR K mg lk F (hidR R D u) σ (upd H D u) e := by
    refine ⟨s.len, fun b x q => ?_, fun j => ?_, fun j k a hn q => ?_, fun j a q => ?_, fun D' a q => ?_, fun i x q => ?_⟩
    · have hb : b ≠ D := fun h => by rw [h, nf] at q; cases q
      rw [upd_ne hb]
      exact s.fh _ _ q
    · by_cases h : j = .hid D
      · subst h
        rw [hidR_same]
        intro b x q
        obtain ⟨rfl, rfl⟩ := one_at q
        exact upd_same
      · rw [hidR_ne h]
        intro b x q
        have hb : b ≠ D := fun h' => by rw [h', nr j h] at q; cases q
        rw [upd_ne hb]
        exact s.rh j _ _ (by rw [hidR_ne h]; exact q)
    · by_cases h : j = .hid D
      · subst h
        rw [hidR_same] at q
        have := one_ne q
        subst this
        rw [hidR_ne (Ne.symm hn)]
        exact nr k (Ne.symm hn)
      · rw [hidR_ne h] at q
        by_cases h' : k = .hid D
        · subst h'
          rw [hidR_same]
          unfold one
          split
          · rename_i e
            subst e
            exact absurd (nr j h) q
          · rfl
        · rw [hidR_ne h']
          have := s.rr j k a hn (by rw [hidR_ne h]; exact q)
          rwa [hidR_ne h'] at this
    · by_cases h : j = .hid D
      · subst h
        rw [hidR_same] at q
        have := one_ne q
        subst this
        exact nf
      · rw [hidR_ne h] at q
        exact s.rf j a (by rw [hidR_ne h]; exact q)
    · by_cases h : Ix.hid D' = .hid D
      · cases h
        rw [hidR_same] at q
        exact one_ne q
      · rw [hidR_ne h] at q
        exact s.hid D' a (by rw [hidR_ne h]; exact q)
    · rw [hidR_ne (by intro h; cases h)]
      have := s.at_ i x q
      rwa [hidR_ne (by intro h; cases h)] at this
  exact s1
/-- behind a block: the frame as it was, the heap as it is -/
theorem SR.back {D : Addr} {o : HO} {σ' : Sg} {e' : Ev} (s : SR K mg lk F R σ H e) (s' : SR K mg lk F' (hidR R D o) σ' H' e') (f : Same F F') (z : R (.hid D) = fun _ => none) : SR K mg lk F' R σ H' e where
  len := s.len
  fh := s'.fh
  rh := fun j => by
    by_cases h : j = .hid D
    · subst h
      rw [z]
      exact fun _ _ q => by cases q
    · have := s'.rh j
      rwa [hidR_ne h] at this
  rr := s.rr
  rf := fun j a q => by
    by_cases h : j = .hid D
    · subst h
      rw [z] at q
      exact absurd rfl q
    · exact s'.rf j a (by rw [hidR_ne h]; exact q)
  hid := s.hid
  at_ := fun i x q => (s.at_ i x q).mono f
theorem Yl.mono {x : V} {d : PyData} (f : Same F F') (y : Yl K mg F H x H' d) : Yl K mg F' H x H' d := by
  rcases y with ⟨e, h⟩ | ⟨T, x1, x2, d1, d2, e1, nT, e2, e3, h1, h2⟩
  · exact .inl ⟨e, h.mono f⟩
  · exact .inr ⟨T, x1, x2, d1, d2, e1, nT, e2, e3, h1.mono f, h2.mono f⟩
/-- a turn's value is known to stand still -/
theorem Yl.keep {x : V} {d : PyData} (s : SR K mg lk F R σ H e) (y : Yl K mg F H x H' d) : ∃ F', Same F F' ∧ Same H H' ∧ SR K mg lk F' R σ H' e ∧ Rp K mg F' x d := by
  rcases y with ⟨rfl, h⟩ | ⟨T, x1, x2, d1, d2, rfl, nT, rfl, rfl, h1, h2⟩
  · exact ⟨F, Same.refl _, Same.refl _, s, h⟩
  · refine ⟨upd F T (.tup [x1, x2]), same_upd (s.newF nT), same_upd nT, (s.heap (same_upd nT)).keep upd_same (s.newF nT) (s.newR nT), .tup upd_same ?_⟩
    exact .cons (h1.mono (same_upd (s.newF nT))) (.cons (h2.mono (same_upd (s.newF nT))) .nil)
end
section
variable {X : Cx} {W : WX} {t : Tg} {vs : List Nat} {fi : Ev → Res (List PyData)} {ft : Ev → Res Bool} {fe : Ev → Res PyData}
theorem lcL_len : ∀ (ds : List PyData) (e : Ev) (ys : List PyData), lcL t ft fe ds e = .ok ys → ys.length ≤ ds.length
  | [], e, ys, h => by
    cases h
    exact Nat.le_refl _
  | d :: ds, e, ys, h => by
    unfold lcL at h
    split at h
    · cases h
    · split at h
      · split at h
        · cases hr : lcL t ft fe ds e with
          | ok zs =>
            rw [hr] at h
            cases h
            have := lcL_len ds e zs hr
            simp only [List.length_cons]
            omega
          | ex c => rw [hr] at h; cases h
          | no => rw [hr] at h; cases h
        · cases h
      · have := lcL_len ds e ys h
        simp only [List.length_cons]
        omega
      · cases h
theorem lc_no_ex : ∀ (ds : List PyData) (e : Ev) (c : Str), lcL t ft fe ds e ≠ .ex c
  | [], e, c => fun h => by cases h
  | d :: ds, e, c => fun h => by
    unfold lcL at h
    split at h
    · cases h
    · split at h
      · split at h
        · cases hr : lcL t ft fe ds e with
          | ok zs => rw [hr] at h; cases h
          | ex c' => exact lc_no_ex ds e c' hr
          | no => rw [hr] at h; cases h
        · cases h
      · exact lc_no_ex ds e c h
      · cases h
theorem x_lc (ht : ∀ i ∈ t.ids, i ∈ vs) : ∀ σ H Q, tX X.K X.mg W (pF X.K X.mg) (lcF t vs fi ft fe) σ H Q →
    tLc (tX X.K X.mg W (pJ X.K X.mg) fi) (gOf X.K t) (tX X.K X.mg W0 pT ft) (tX X.K X.mg W0 (pE X.K X.mg) fe) vs σ H Q := by
  intro σ H Q q
  obtain ⟨e, lk, F, R, s, q⟩ := q
  refine ⟨e, lk, F, R, s, resOk.bind q fun ds J H1 F1 f1 g1 s1 p1 q1 => ?_⟩
  by_cases hsm : ¬ small ds.length = true
  · rw [if_neg hsm] at q1
    exact q1.elim
  rw [if_pos (Decidable.of_not_not hsm)] at q1
  have hsz := small_le (Decidable.of_not_not hsm)
  have hsz2 : ds.length ≤ 100000 := of_decide_eq_true (Decidable.of_not_not hsm)
  cases hall : lcL t ft fe ds (killS vs e) with
  | no => rw [hall] at q1; exact q1.elim
  | ex c => exact absurd hall (lc_no_ex _ _ _)
  | ok ys =>
    rw [hall] at q1
    intro D hD
    have hz : R (.hid D) = fun _ => none := by
      funext a
      cases h : R (.hid D) a with
      | none => rfl
      | some u =>
        have e1 := s1.hid D a (by rw [h]; intro z; cases z)
        subst e1
        rw [s1.newR hD] at h
        cases h
    have s1' : SR X.K X.mg lk F1 R (wipe σ vs) (upd H1 D (.lst [])) (killS vs e) := (s1.wipe vs).heap (same_upd hD)
    have s2 := s1'.aside (D := D) (o := .lst []) upd_same (s1.newF hD) (fun j _ => s1.newR hD j)
    refine ⟨fun i m H => m = ds.length - i ∧ i ≤ ds.length ∧ ∃ F' acc vs' rest, Same F1 F' ∧ Same H1 H ∧ SR X.K X.mg lk F' (hidR R D (.lst vs')) (wipe σ vs) H (killS vs e) ∧ RpA X.K X.mg F' vs' acc ∧
        lcL t ft fe (ds.drop i) (killS vs e) = .ok rest ∧ acc ++ rest = ys ∧ vs'.length ≤ i, ⟨ds.length, by omega, Nat.zero_le _, F1, [], [], ys, Same.refl _, same_upd hD, s2, .nil, hall, rfl, Nat.le_refl _⟩, ?_⟩
    rintro i m H2 ⟨rfl, hi, F2, acc, vs', rest, f2, g2, s3, hacc, hrest, hys, hlen⟩
    have pm : Same F1 H2 ∧ ∀ i, Same (R (.sl i)) H2 := ⟨f2.trans s3.fh, fun i => by
      have := s3.rh (.sl i)
      rwa [hidR_ne (by intro h; cases h)] at this⟩
    by_cases hlt : i < ds.length
    · have hd : ds.drop i = ds[i] :: ds.drop (i + 1) := List.drop_eq_getElem_cons hlt
      rw [hd] at hrest
      refine .inr ⟨p1.go i H2 pm hlt, fun H => ∃ F' acc vs' rest, Same F1 F' ∧ Same H1 H ∧ SR X.K X.mg lk F' (hidR R D (.lst vs')) (wipe σ vs) H (killS vs e) ∧ RpA X.K X.mg F' vs' acc ∧
        lcL t ft fe (ds.drop (i + 1)) (killS vs e) = .ok rest ∧ acc ++ rest = ys ∧ vs'.length ≤ i + 1, fun H' h => ⟨ds.length - (i + 1), by omega, rfl, hlt, h⟩, fun x H3 y => ?_⟩
      obtain ⟨d, hdi, yl⟩ := p1.yld i H2 x H3 pm hlt y
      have ed : ds[i] = d := by
        rw [List.getElem?_eq_getElem hlt] at hdi
        exact Option.some.inj hdi
      rw [ed] at hrest
      obtain ⟨F3, f3, g3, s4, hx⟩ := (yl.mono f2).keep s3
      unfold lcL at hrest
      cases htg : tgSet t d (killS vs e) with
      | none => rw [htg] at hrest; cases hrest
      | some e1 =>
        rw [htg] at hrest
        dsimp only at hrest
        refine tg_run s4 hx htg fun σ' hw s5 => ?_
        refine ⟨(hw vs ht).trans ?_, ?_⟩
        · have aux : ∀ (us ws : List Nat) (σ : Sg), (∀ i ∈ us, i ∈ ws) → wipe (wipe σ us) ws = wipe σ ws := by
            intro us
            induction us with
            | nil => intro ws σ _; rfl
            | cons u us ih =>
              intro ws σ h
              show wipe ((wipe σ us).set u none) ws = _
              rw [wipe_set_in (h u List.mem_cons_self)]
              exact ih ws σ fun i hi => h i (List.mem_cons_of_mem _ hi)
          exact aux vs vs σ fun _ h => h
        · have sBack : ∀ {F4 H4 : Hp}, Same F3 F4 → SR X.K X.mg lk F4 (hidR R D (.lst vs')) σ' H4 e1 → SR X.K X.mg lk F4 (hidR R D (.lst vs')) (wipe σ vs) H4 (killS vs e) := fun {F4 H4} f4 s6 =>
            ⟨s4.len, s6.fh, s6.rh, s6.rr, s6.rf, s6.hid, fun i x q => (s4.at_ i x q).mono f4⟩
          refine ⟨e1, lk, F3, _, s5, ?_⟩
          cases hft : ft e1 with
          | no => rw [hft] at hrest; cases hrest
          | ex c => rw [hft] at hrest; cases hrest
          | ok b =>
            rw [hft] at hrest
            intro b' H4 F4 f4 g4 s6 eb
            cases eb
            cases b with
            | false =>
              rw [if_neg Bool.false_ne_true]
              dsimp only at hrest
              exact ⟨F4, acc, vs', rest, (f2.trans f3).trans f4, (g2.trans g3).trans g4, sBack f4 s6, hacc.mono (f3.trans f4), hrest, hys, by omega⟩
            | true =>
              rw [if_pos rfl]
              dsimp only at hrest
              refine ⟨e1, lk, F4, _, s6, ?_⟩
              cases hfe : fe e1 with
              | no => rw [hfe] at hrest; cases hrest
              | ex c => rw [hfe] at hrest; cases hrest
              | ok y =>
                rw [hfe] at hrest
                dsimp only at hrest
                cases hr2 : lcL t ft fe (ds.drop (i + 1)) (killS vs e) with
                | no => rw [hr2] at hrest; cases hrest
                | ex c => rw [hr2] at hrest; cases hrest
                | ok rest2 =>
                  rw [hr2] at hrest
                  cases hrest
                  intro v H5 F5 f5 g5 s7 pv
                  have hDD : H5 D = some (.lst vs') := s7.rh (.hid D) _ _ (by rw [hidR_same, one_same])
                  refine ⟨vs', hDD, by omega, F5, acc ++ [y], vs' ++ [v], rest2, ((f2.trans f3).trans f4).trans f5, ?_, ?_, ?_, rfl, ?_, ?_⟩
                  · intro b u q
                    have hb : b ≠ D := fun h => by rw [h, hD] at q; cases q
                    rw [upd_ne hb]
                    exact (((g2.trans g3).trans g4).trans g5) _ _ q
                  · exact (sBack (f4.trans f5) s7).asideSet
                  · exact (hacc.mono ((f3.trans f4).trans f5)).app (.cons pv .nil)
                  · rw [List.append_assoc]
                    exact hys
                  · rw [List.length_append]
                    simp only [List.length_cons, List.length_nil]
                    omega
    · have hie : i = ds.length := by omega
      subst hie
      rw [List.drop_length] at hrest
      cases hrest
      rw [List.append_nil] at hys
      subst hys
      refine .inl ⟨p1.stop H2 pm, ?_⟩
      have sb := s1.back s3 f2 hz
      refine q1 _ _ F2 f2 g2 sb ⟨D, vs', rfl, ?_, ?_, ?_, hacc⟩
      · exact s3.rh (.hid D) _ _ (by rw [hidR_same, one_same])
      · exact s3.rf (.hid D) D (by rw [hidR_same, one_same]; intro h; cases h)
      · intro j
        by_cases h : j = .hid D
        · subst h
          rw [hz]
        · have := s3.rr (.hid D) j D (Ne.symm h) (by rw [hidR_same, one_same]; intro h; cases h)
          rwa [hidR_ne h] at this
/-! ### the rules -/
abbrev Blk (X : Cx) (scope : Scope) (P : Cx → Prop) : Prop := ∀ (s : Shared) (H : Hp) (C : Addr) (cl : List (Str × Addr)) (fp : List Addr), P (X.blk s H scope (compEnvC scope cl C X.env) fp)
def tYesF : Ev → Res Bool := fun _ => .ok true
theorem pts_yes {Y : Cx} {W : WX} : PTs Y [] (tX Y.K Y.mg W pT tYesF) := ⟨fun pins s σ H Q I q => by
  obtain ⟨e, lk, F, R, sr, q⟩ := q
  exact pts_nil.run pins s σ H Q I (q.fin sr rfl)⟩
theorem cf_lc {elt tg iter : Expr} {ifs : List Expr} {scope : Scope} {own : List (Str × Nat)} {pos : Pos} (hc : X.calm = true) (hN : X.N.Nodup) (hi : CJ X W tg iter fi) (ok : BlkOk X.N X.env.scope scope own) (hvs : own.map (·.2) = vs) (hti : ∀ i ∈ t.ids, i ∈ vs)
    (hg : Blk X scope fun Y => PG Y tg (gOf Y.K t)) (ht : Blk X scope fun Y => PTs Y ifs (tX Y.K Y.mg W0 pT ft)) (he : Blk X scope fun Y => CE Y W0 elt fe) (hs : ∀ x, foldedSetIterable iter X.env x = pure x := by intro _; rfl) :
    CF X W (.ListComp elt [⟨tg, iter, ifs, 0⟩] scope pos) (lcF t vs fi ft fe) := by
  subst hvs
  exact (pe_lc hc hN hi ok hg ht he hs).imp (x_lc hti)
end
end VL
end
section
set_option Elab.async false
set_option linter.all false
set_option maxRecDepth 100000
set_option autoImplicit false
set_option maxHeartbeats 4000000
/-! The value layer: statements. -/
namespace VL
open PySem PySem.Spec PyProof.Rows L2

abbrev SS := Ev → Out
/-- an expression's value, then what comes of it -/
def thn {α : Type} (x : Res α) (e : Ev) (g : α → Out) : Out := match x with
  | .ok a => g a
  | .ex c => .ex c e
  | .no => .no
@[simp] theorem thn_ok {α : Type} (a : α) (e : Ev) (g : α → Out) : thn (.ok a) e g = g a := rfl
@[simp] theorem thn_ex {α : Type} (c : Str) (e : Ev) (g : α → Out) : thn (.ex c) e g = .ex c e := rfl
@[simp] theorem thn_no {α : Type} (e : Ev) (g : α → Out) : thn .no e g = .no := rfl
section
variable (K : PySem.W.Frag) (mg : Str → Option Value) (W : WX)
def fin (lk : Nat → Option (Addr × List V)) (F : Hp) (R : Ix → Hp) (D : Ends) : Out → Prop
  | .nx e' => ∀ σ' H' F' R', Same F F' → KeepR R R' → SR K mg lk F' R' σ' H' e' → D.nx σ' H'
  | .bk e' => ∀ σ' H' F' R', Same F F' → KeepR R R' → SR K mg lk F' R' σ' H' e' → D.bk σ' H'
  | .ct e' => ∀ σ' H' F' R', Same F F' → KeepR R R' → SR K mg lk F' R' σ' H' e' → D.ct σ' H'
  | .rt d => ∀ v H' F' R', Same F F' → KeepR R R' → SR K mg lk F' R' [] H' [] → Rp K mg F' v d → D.rt v H'
  | .rl ds => ∀ p vs H' F' R', Same F F' → KeepR R R' → SR K mg lk F' R' [] H' [] → H' p = some (.lst vs) → F' p = none → R' .base p = none → (∀ a, R' (.hid a) p = none) → RpA K mg F' vs ds → D.rt (.ref p) H'
  | .rg d => ∀ v H' F' R' G, Same F F' → KeepR R R' → SR K mg lk F' R' [] H' [] → Same G H' → (∀ a, G a ≠ none → F' a = none ∧ R' .base a = none) → Own K mg G v d → D.rt v H'
  | .ex c e' => ∀ C σ' H' F' R', mg c = some (.ref C) → Same F F' → KeepR R R' → SR K mg lk F' R' σ' H' e' → W (.ref C) none σ' H'
  | .rs e' d => ∀ v σ' H' F' R', Same F F' → KeepR R R' → SR K mg lk F' R' σ' H' e' → Rp K mg F' v d → D.rt v H'
  | .no => False
def tS (f : SS) : TS := fun D σ H => ∃ e lk F R, SR K mg lk F R σ H e ∧ fin K mg W lk F R D (f e)
end
abbrev CS (X : Cx) (W : WX) (st : Stmt) (f : SS) : Prop := PS X st (tS X.K X.mg W f)
abbrev CSs (X : Cx) (W : WX) (st : List Stmt) (f : SS) : Prop := PSs X st (tS X.K X.mg W f)

section
variable {K : PySem.W.Frag} {mg : Str → Option Value} {W : WX} {lk : Nat → Option (Addr × List V)} {F F' H H' : Hp} {R R' : Ix → Hp} {σ : Sg} {e : Ev} {D D' : Ends}
theorem fin.up {o : Out} (f : Same F F') (k : KeepR R R') (h : fin K mg W lk F R D o) : fin K mg W lk F' R' D o := by
  cases o with
  | nx e' => exact fun σ2 H2 F2 R2 f2 k2 s => h σ2 H2 F2 R2 (f.trans f2) (k.trans k2) s
  | bk e' => exact fun σ2 H2 F2 R2 f2 k2 s => h σ2 H2 F2 R2 (f.trans f2) (k.trans k2) s
  | ct e' => exact fun σ2 H2 F2 R2 f2 k2 s => h σ2 H2 F2 R2 (f.trans f2) (k.trans k2) s
  | rt d => exact fun v H2 F2 R2 f2 k2 s p => h v H2 F2 R2 (f.trans f2) (k.trans k2) s p
  | rl ds => exact fun p vs H2 F2 R2 f2 k2 s a b c d r => h p vs H2 F2 R2 (f.trans f2) (k.trans k2) s a b c d r
  | rg d => exact fun v H2 F2 R2 G f2 k2 s a b r => h v H2 F2 R2 G (f.trans f2) (k.trans k2) s a b r
  | ex c e' => exact fun C σ2 H2 F2 R2 m f2 k2 s => h C σ2 H2 F2 R2 m (f.trans f2) (k.trans k2) s
  | rs e' d => exact fun v σ2 H2 F2 R2 f2 k2 s p => h v σ2 H2 F2 R2 (f.trans f2) (k.trans k2) s p
  | no => exact h
theorem SR.bare (s : SR K mg lk F R σ H e) : SR K mg lk F R [] H [] := ⟨rfl, s.fh, s.rh, s.rr, s.rf, s.hid, fun i x q => by simp at q⟩
theorem fin.nx {e' : Ev} {σ' : Sg} (h : fin K mg W lk F R D (.nx e')) (s : SR K mg lk F R σ' H' e') : D.nx σ' H' := h σ' H' F R (Same.refl _) (KeepR.refl _) s
/-- an expression first -/
theorem fin.bind {α : Type} {post : Post V α} {Q : VK} {x : Res α} {g : α → Out} (h : fin K mg W lk F R D (thn x e g))
    (k : ∀ a v H' F', Same F F' → Same H H' → SR K mg lk F' R σ H' e → post R F' H' v a → fin K mg W lk F' R D (g a) → Q v H') : resOk K mg W lk F R σ H e post Q x := by
  cases x with
  | ok a => exact fun v H2 F2 f2 g2 s2 p => k a v H2 F2 f2 g2 s2 p (fin.up f2 (KeepR.refl _) h)
  | ex c => exact fun C H2 F2 m f2 g2 s2 => h C σ H2 F2 R m f2 (KeepR.refl _) s2
  | no => exact h
theorem fin.bindT {Q : Bool → Hp → Prop} {x : Res Bool} {g : Bool → Out} (h : fin K mg W lk F R D (thn x e g))
    (k : ∀ a H' F', Same F F' → Same H H' → SR K mg lk F' R σ H' e → fin K mg W lk F' R D (g a) → Q a H') : resOk K mg W lk F R σ H e pT Q x := by
  cases x with
  | ok a =>
    intro v H2 F2 f2 g2 s2 p
    cases p
    exact k _ H2 F2 f2 g2 s2 (fin.up f2 (KeepR.refl _) h)
  | ex c => exact fun C H2 F2 m f2 g2 s2 => h C σ H2 F2 R m f2 (KeepR.refl _) s2
  | no => exact h
/-! ### a slot's own list -/
def dropR (R : Ix → Hp) (i : Nat) : Ix → Hp := fun j => if j = .sl i then fun _ => none else R j
def slR (R : Ix → Hp) (i : Nat) (p : Addr) (vs : List V) : Ix → Hp := fun j => if j = .sl i then one p (.lst vs) else R j
theorem slR_same {i : Nat} {p : Addr} {vs : List V} : slR R i p vs (.sl i) = one p (.lst vs) := by unfold slR; rw [if_pos rfl]
theorem slR_ne {i : Nat} {p : Addr} {vs : List V} {j : Ix} (h : j ≠ .sl i) : slR R i p vs j = R j := by unfold slR; rw [if_neg h]
theorem KeepR.sl {i : Nat} {p : Addr} {vs : List V} : KeepR R (slR R i p vs) := ⟨slR_ne (by intro h; cases h), fun a => slR_ne (by intro h; cases h)⟩
/-- the general step: slot i now holds the list at p, which lies in no part but slot i's -/
theorem SR.own (s : SR K mg lk F R σ H e) {i : Nat} {p : Addr} {vs : List V} {ds : List PyData} (nf : F p = none) (nr : ∀ j, j ≠ .sl i → R j p = none) (hH : ∀ b o, b ≠ p → H b = some o → H' b = some o) (hp : H' p = some (.lst vs)) (hr : RpA K mg F vs ds) {σ' : Sg}
    (hl : σ'.length = σ.length) (hi : i < σ.length → σ'[i]? = some (some (.ref p))) (ho : ∀ j, j ≠ i → σ'[j]? = σ[j]?) : SR K mg lk F (slR R i p vs) σ' H' (e.set i (.ow ds)) where
  len := by rw [List.length_set, hl]; exact s.len
  fh := fun b o q => by
    have hb : b ≠ p := fun h => by rw [h, nf] at q; cases q
    exact hH b o hb (s.fh _ _ q)
  rh := fun j => by
    by_cases h : j = .sl i
    · subst h
      rw [slR_same]
      intro b o q
      obtain ⟨rfl, rfl⟩ := one_at q
      exact hp
    · rw [slR_ne h]
      intro b o q
      have hb : b ≠ p := fun h' => by rw [h', nr j h] at q; cases q
      exact hH b o hb (s.rh j _ _ q)
  rr := fun j k a hn q => by
    by_cases h : j = .sl i
    · subst h
      rw [slR_same] at q
      have := one_ne q
      subst this
      rw [slR_ne (Ne.symm hn)]
      exact nr k (Ne.symm hn)
    · rw [slR_ne h] at q
      by_cases h' : k = .sl i
      · subst h'
        rw [slR_same]
        unfold one
        split
        · rename_i e
          subst e
          exact absurd (nr j h) q
        · rfl
      · rw [slR_ne h']
        exact s.rr j k a hn q
  rf := fun j a q => by
    by_cases h : j = .sl i
    · subst h
      rw [slR_same] at q
      have := one_ne q
      subst this
      exact nf
    · rw [slR_ne h] at q
      exact s.rf j a q
  hid := fun D a q => by
    rw [slR_ne (by intro h; cases h)] at q
    exact s.hid D a q
  at_ := fun j x q => by
    by_cases hj : i = j
    · subst hj
      have hl : i < e.length := by
        have := (List.getElem?_eq_some_iff.mp q).1
        rwa [List.length_set] at this
      rw [List.getElem?_set_self hl] at q
      cases q
      exact ⟨p, vs, hi (by rw [← s.len]; exact hl), slR_same, hr⟩
    · rw [List.getElem?_set_ne hj] at q
      rw [ho j (Ne.symm hj), slR_ne (by intro h; cases h; exact hj rfl)]
      exact s.at_ j x q
theorem SR.setO (s : SR K mg lk F R σ H e) (i : Nat) {p : Addr} {vs : List V} {ds : List PyData} (hp : H p = some (.lst vs)) (nf : F p = none) (nr : ∀ j, R j p = none) (hr : RpA K mg F vs ds) : SR K mg lk F (slR R i p vs) (σ.set i (some (.ref p))) H (e.set i (.ow ds)) :=
  s.own nf (fun j _ => nr j) (fun _ _ _ q => q) hp hr (by rw [List.length_set]) (fun h => List.getElem?_set_self h) fun j hj => List.getElem?_set_ne (Ne.symm hj)
theorem SR.mutO (s : SR K mg lk F R σ H e) {i : Nat} {es : List PyData} (he : e[i]? = some (.ow es)) : ∃ p vs, σ[i]? = some (some (.ref p)) ∧ H p = some (.lst vs) ∧ F p = none ∧ (∀ j, j ≠ .sl i → R j p = none) ∧ RpA K mg F vs es ∧
    ∀ vs' ds', RpA K mg F vs' ds' → SR K mg lk F (slR R i p vs') σ (upd H p (.lst vs')) (e.set i (.ow ds')) := by
  obtain ⟨p, vs, hx, hr, ha⟩ := s.at_ i _ he
  have h1 : H p = some (.lst vs) := s.rh (.sl i) _ _ (by rw [hr, one_same])
  have nf : F p = none := s.rf (.sl i) p (by rw [hr, one_same]; intro h; cases h)
  have nr : ∀ j, j ≠ .sl i → R j p = none := fun j hj => s.rr (.sl i) j p (Ne.symm hj) (by rw [hr, one_same]; intro h; cases h)
  exact ⟨p, vs, hx, h1, nf, nr, ha, fun vs' ds' ha' => s.own nf nr (fun b o hb q => by rw [upd_ne hb]; exact q) upd_same ha' rfl (fun _ => hx) fun _ _ => rfl⟩
/-- the frame lets its list stand still from now on -/
theorem SR.freeze (s : SR K mg lk F R σ H e) {i : Nat} {ds : List PyData} (he : e[i]? = some (.ow ds)) : ∃ F' R', Same F F' ∧ KeepR R R' ∧ SR K mg lk F' R' σ H (e.set i (.fz (.list ds))) := by
  obtain ⟨p, vs, hx, hr, ha⟩ := s.at_ i _ he
  have h1 : H p = some (.lst vs) := s.rh (.sl i) _ _ (by rw [hr, one_same])
  have nf : F p = none := s.rf (.sl i) p (by rw [hr, one_same]; intro h; cases h)
  have nr : ∀ j, j ≠ .sl i → R j p = none := fun j hj => s.rr (.sl i) j p (Ne.symm hj) (by rw [hr, one_same]; intro h; cases h)
  have f : Same F (upd F p (.lst vs)) := same_upd nf
  have d1 : ∀ j, j ≠ .sl i → dropR R i j = R j := fun j h => by unfold dropR; rw [if_neg h]
  have d0 : ∀ a, dropR R i (.sl i) a = none := fun a => by unfold dropR; rw [if_pos rfl]
  refine ⟨upd F p (.lst vs), dropR R i, f, ⟨d1 _ (by intro h; cases h), fun a => d1 _ (by intro h; cases h)⟩, by rw [List.length_set]; exact s.len, fun b u q => ?_, fun j => ?_, fun j k a hn q => ?_, fun j a q => ?_, fun D a q => ?_, fun j x q => ?_⟩
  · by_cases hb : b = p
    · subst hb
      rw [upd_same] at q
      cases q
      exact h1
    · rw [upd_ne hb] at q
      exact s.fh _ _ q
  · by_cases h : j = .sl i
    · subst h
      intro b u q
      rw [d0] at q
      cases q
    · rw [d1 j h]
      exact s.rh j
  · by_cases h : j = .sl i
    · subst h
      exact absurd (d0 a) q
    · rw [d1 j h] at q
      by_cases h' : k = .sl i
      · subst h'
        exact d0 a
      · rw [d1 k h']
        exact s.rr j k a hn q
  · by_cases h : j = .sl i
    · subst h
      exact absurd (d0 a) q
    · rw [d1 j h] at q
      by_cases hb : a = p
      · subst hb
        exact absurd (nr j h) q
      · rw [upd_ne hb]
        exact s.rf j a q
  · rw [d1 _ (by intro h; cases h)] at q
    exact s.hid D a q
  · by_cases hj : i = j
    · subst hj
      have hl : i < e.length := (List.getElem?_eq_some_iff.mp he).1
      rw [List.getElem?_set_self hl] at q
      cases q
      exact ⟨.ref p, hx, .lst upd_same (ha.mono f)⟩
    · rw [List.getElem?_set_ne hj] at q
      rw [d1 _ (by intro h; cases h; exact hj rfl)]
      exact (s.at_ j x q).mono f
end

/-! ### blocks -/
section
variable {X : Cx} {W : WX} {st : Stmt} {rest : List Stmt} {f g : SS} {pos : Pos}
def sSeq (f g : SS) : SS := fun e => match f e with
  | .nx e' => g e'
  | o => o
def sNil : SS := fun e => .nx e
theorem css_nil : CSs X W [] sNil := pss_nil.imp fun D σ H q => by
  obtain ⟨e, lk, F, R, s, q⟩ := q
  exact q.nx s
theorem css_one (h : CS X W st f) : CSs X W [st] f := pss_one h
theorem fin.seq {K : PySem.W.Frag} {mg : Str → Option Value} {W : WX} {lk : Nat → Option (Addr × List V)} {F : Hp} {R : Ix → Hp} {D : Ends} {o : Out} {g : SS} (h : fin K mg W lk F R D (match o with | .nx e' => g e' | o => o)) :
    fin K mg W lk F R { D with nx := tS K mg W g D } o := by
  cases o with
  | nx e' => exact fun σ2 H2 F2 R2 f2 k2 s => ⟨e', lk, F2, R2, s, fin.up f2 k2 h⟩
  | bk e' => exact h
  | ct e' => exact h
  | rt d => exact h
  | rl ds => exact h
  | rg d => exact h
  | rs e' d => exact h
  | ex c e' => exact h
  | no => exact h
theorem css_cons (h1 : CS X W st f) (h2 : CSs X W rest g) : CSs X W (st :: rest) (sSeq f g) := (pss_cons h1 h2).imp fun D σ H q => by
  obtain ⟨e, lk, F, R, s, q⟩ := q
  exact ⟨e, lk, F, R, s, fin.seq q⟩
/-- ghosts: a slot's list stands still from here; slots are forgotten -/
def gFz (i : Nat) (f : SS) : SS := fun e => match e[i]? with
  | some (.ow ds) => f (e.set i (.fz (.list ds)))
  | _ => f e
theorem css_fz {sts : List Stmt} (i : Nat) (h : CSs X W sts f) : CSs X W sts (gFz i f) := h.imp fun D σ H q => by
  obtain ⟨e, lk, F, R, s, q⟩ := q
  unfold gFz at q
  split at q
  · rename_i ds he
    obtain ⟨F', R', f', k', s'⟩ := s.freeze he
    exact ⟨_, lk, F', R', s', fin.up f' k' q⟩
  · exact ⟨e, lk, F, R, s, q⟩
def gKill (vs : List Nat) (f : SS) : SS := fun e => f (killS vs e)
theorem css_kill {sts : List Stmt} (vs : List Nat) (h : CSs X W sts f) : CSs X W sts (gKill vs f) := h.imp fun D σ H q => by
  obtain ⟨e, lk, F, R, s, q⟩ := q
  exact ⟨_, lk, F, R, s.kill vs, q⟩
/-! ### assignments, returns -/
def sAsgE (i : Nat) (f : Ev → Res PyData) : SS := fun e => thn (f e) e fun d => .nx (e.set i (.fz d))
def sAsgF (i : Nat) (f : Ev → Res (List PyData)) : SS := fun e => thn (f e) e fun ds => .nx (e.set i (.ow ds))
theorem x_asgE {i : Nat} {te : TE} {fe : Ev → Res PyData} (k : ∀ σ H Q, tX X.K X.mg W (pE X.K X.mg) fe σ H Q → te σ H Q) : ∀ D σ H, tS X.K X.mg W (sAsgE i fe) D σ H → tAsg te (gName i) D σ H := by
  intro D σ H q
  obtain ⟨e, lk, F, R, s, q⟩ := q
  refine k σ H _ ⟨e, lk, F, R, s, fin.bind q fun d v H1 F1 f1 g1 s1 p1 q1 => ?_⟩
  exact q1.nx (s1.setF i p1)
theorem x_asgF {i : Nat} {te : TE} {fe : Ev → Res (List PyData)} (k : ∀ σ H Q, tX X.K X.mg W (pF X.K X.mg) fe σ H Q → te σ H Q) : ∀ D σ H, tS X.K X.mg W (sAsgF i fe) D σ H → tAsg te (gName i) D σ H := by
  intro D σ H q
  obtain ⟨e, lk, F, R, s, q⟩ := q
  refine k σ H _ ⟨e, lk, F, R, s, fin.bind q fun d v H1 F1 f1 g1 s1 p1 q1 => ?_⟩
  obtain ⟨p, vs, rfl, hp, nf, nr, hr⟩ := p1
  exact q1 _ _ F1 _ (Same.refl _) KeepR.sl (s1.setO i hp nf nr hr)
variable {i : Nat} {x : Str} {pos' : Pos} {ex : Expr} {fe : Ev → Res PyData} {fl : Ev → Res (List PyData)}
theorem cs_asgE (hN : X.N.Nodup) (hi : X.N[i]? = some x) (hx : Loc X.env.scope x) (he : CE X W ex fe) (hs : swapsWith ex (some (.Name x pos')) pos.line X.env = pure false := by rfl) (hf : X.fn x = true ∨ X.env.scope.names.lookup x = some .local := by first | exact .inl rfl | exact .inr rfl) :
    CS X W (.Assign [.Name x pos'] ex pos) (sAsgE i fe) := (ps_set hN hi hx he hs hf).imp (x_asgE fun _ _ _ q => q)
theorem cs_asgF (hN : X.N.Nodup) (hi : X.N[i]? = some x) (hx : Loc X.env.scope x) (he : CF X W ex fl) (hs : swapsWith ex (some (.Name x pos')) pos.line X.env = pure false := by rfl) (hf : X.fn x = true ∨ X.env.scope.names.lookup x = some .local := by first | exact .inl rfl | exact .inr rfl) :
    CS X W (.Assign [.Name x pos'] ex pos) (sAsgF i fl) := (ps_set hN hi hx he hs hf).imp (x_asgF fun _ _ _ q => q)
def sRetE (f : Ev → Res PyData) : SS := fun e => thn (f e) e .rt
def sRetF (f : Ev → Res (List PyData)) : SS := fun e => thn (f e) e .rl
def sRetO (i : Nat) : SS := fun e => match e[i]? with
  | some (.ow ds) => .rl ds
  | _ => .no
theorem cs_retE (he : CE X W ex fe) : CS X W (.Return (some ex) pos) (sRetE fe) := (ps_ret he).imp fun D σ H q => by
  obtain ⟨e, lk, F, R, s, q⟩ := q
  refine ⟨e, lk, F, R, s, fin.bind q fun d v H1 F1 f1 g1 s1 p1 q1 => ?_⟩
  exact q1 v H1 F1 R (Same.refl _) (KeepR.refl _) s1.bare p1
theorem cs_retF (he : CF X W ex fl) : CS X W (.Return (some ex) pos) (sRetF fl) := (ps_ret he).imp fun D σ H q => by
  obtain ⟨e, lk, F, R, s, q⟩ := q
  refine ⟨e, lk, F, R, s, fin.bind q fun d v H1 F1 f1 g1 s1 p1 q1 => ?_⟩
  obtain ⟨p, vs, rfl, hp, nf, nr, hr⟩ := p1
  exact q1 p vs H1 F1 R (Same.refl _) (KeepR.refl _) s1.bare hp nf (nr _) (fun a => nr _) hr
theorem cs_retO (h : PE X ex (tVar i)) : CS X W (.Return (some ex) pos) (sRetO i) := (ps_ret h).imp fun D σ H q => by
  obtain ⟨e, lk, F, R, s, q⟩ := q
  unfold sRetO at q
  split at q
  · rename_i ds he
    obtain ⟨p, vs, hx, hr, ha⟩ := s.at_ i _ he
    have h1 : H p = some (.lst vs) := s.rh (.sl i) _ _ (by rw [hr, one_same])
    have nn : R (.sl i) p ≠ none := by rw [hr, one_same]; intro h; cases h
    exact ⟨.ref p, hx, q p vs H F R (Same.refl _) (KeepR.refl _) s.bare h1 (s.rf _ _ nn) (s.rr (.sl i) .base p (by intro h; cases h) nn) (fun a => s.rr (.sl i) (.hid a) p (by intro h; cases h) nn) ha⟩
  · exact q.elim
/-! ### if -/
def sIf (c : Ev → Res Bool) (f g : SS) : SS := fun e => thn (c e) e fun b => match b with
  | true => f e
  | false => g e
theorem cs_if {c : Expr} {a b : List Stmt} {gc : Ev → Res Bool} (hc : CT X W c gc) (ha : CSs X W a f) (hb : CSs X W b g) : CS X W (.If c a b pos) (sIf gc f g) := (ps_if hc ha hb).imp fun D σ H q => by
  obtain ⟨e, lk, F, R, s, q⟩ := q
  refine ⟨e, lk, F, R, s, fin.bindT q fun b H1 F1 f1 g1 s1 q1 => ?_⟩
  cases b with
  | true =>
    rw [if_pos rfl]
    exact ⟨e, lk, F1, R, s1, q1⟩
  | false =>
    rw [if_neg Bool.false_ne_true]
    exact ⟨e, lk, F1, R, s1, q1⟩
/-! ### loops -/
def forL (t : Tg) (kl : List Nat) (f : SS) : List PyData → Ev → Out
  | [], e => .nx e
  | d :: ds, e => match tgSet t d e with
    | none => .no
    | some e1 => match f e1 with
      | .nx e2 => forL t kl f ds (killS kl e2)
      | .ct e2 => forL t kl f ds (killS kl e2)
      | .bk e2 => .nx (killS kl e2)
      | o => o
def sFor (t : Tg) (kl : List Nat) (fi : Ev → Res (List PyData)) (f : SS) : SS := fun e => match fi e with
  | .ok ds => forL t kl f ds (killS kl e)
  | .ex c => .ex c e
  | .no => .no
theorem fin.forL {K : PySem.W.Frag} {mg : Str → Option Value} {lk : Nat → Option (Addr × List V)} {t : Tg} {kl : List Nat} {F : Hp} {R : Ix → Hp} {D : Ends} {d : PyData} {ds : List PyData} {e e1 : Ev} {N : L2.St → Hp → Prop}
    (h : fin K mg W lk F R D (VL.forL t kl f (d :: ds) e)) (ht : tgSet t d e = some e1)
    (hN : ∀ σ' H' F' R' e2, Same F F' → KeepR R R' → SR K mg lk F' R' σ' H' e2 → fin K mg W lk F' R' D (VL.forL t kl f ds e2) → N σ' H') : fin K mg W lk F R { D with nx := N, ct := N, bk := D.nx } (f e1) := by
  unfold VL.forL at h
  rw [ht] at h
  dsimp only at h
  cases hf : f e1 with
  | nx e2 =>
    rw [hf] at h
    exact fun σ2 H2 F2 R2 f2 k2 s => hN σ2 H2 F2 R2 _ f2 k2 (s.kill kl) (fin.up f2 k2 h)
  | ct e2 =>
    rw [hf] at h
    exact fun σ2 H2 F2 R2 f2 k2 s => hN σ2 H2 F2 R2 _ f2 k2 (s.kill kl) (fin.up f2 k2 h)
  | bk e2 =>
    rw [hf] at h
    exact fun σ2 H2 F2 R2 f2 k2 s => h σ2 H2 F2 R2 f2 k2 (s.kill kl)
  | rt d => rw [hf] at h; exact h
  | rl ds => rw [hf] at h; exact h
  | rg d => rw [hf] at h; exact h
  | rs e' d => rw [hf] at h; exact h
  | ex c e' => rw [hf] at h; exact h
  | no => rw [hf] at h; exact h
theorem cs_for {tg iter : Expr} {body : List Stmt} {t : Tg} {kl : List Nat} (hp : PassesOwn (model X.prog X.w) X.A X.env X.xe) (hc : X.calm = true) (hi : CI X W tg iter fl) (hg : PG X tg (gOf X.K t)) (hb : CSs X W body f)
    (hs : ∀ x, foldedSetIterable iter X.env x = pure x := by intro _; rfl) : CS X W (.For tg iter body [] pos) (sFor t kl fl f) := (ps_for hp hc hi hg hb hs).imp fun D σ H q => by
  obtain ⟨e, lk, F, R, s, q⟩ := q
  unfold sFor at q
  refine ⟨e, lk, F, R, s, ?_⟩
  cases hx : fl e with
  | ex c => rw [hx] at q; exact fun C H2 F2 m f2 g2 s2 => q C σ H2 F2 R m f2 (KeepR.refl _) s2
  | no => rw [hx] at q; exact q
  | ok ds =>
    rw [hx] at q
    intro J H1 F1 f1 g1 s1 p1
    refine ⟨fun i m σ H => m = ds.length - i ∧ i ≤ ds.length ∧ ∃ e' F' R', Same F1 F' ∧ SR X.K X.mg lk F' R' σ H e' ∧ fin X.K X.mg W lk F' R' D (forL t kl f (ds.drop i) e'), ⟨ds.length, by omega, Nat.zero_le _, _, F1, R, Same.refl _, s1.kill kl, fin.up f1 (KeepR.refl _) q⟩, ?_⟩
    rintro i m σ2 H2 ⟨rfl, hi, e2, F2, R2, f2, s2, q2⟩
    have pm : Same F1 H2 := f2.trans s2.fh
    by_cases hlt : i < ds.length
    · have hd : ds.drop i = ds[i] :: ds.drop (i + 1) := List.drop_eq_getElem_cons hlt
      rw [hd] at q2
      refine .inr ⟨p1.go i H2 pm hlt, fun σ H => ∃ e' F' R', Same F1 F' ∧ SR X.K X.mg lk F' R' σ H e' ∧ fin X.K X.mg W lk F' R' D (forL t kl f (ds.drop (i + 1)) e'), fun σ' H' h => ⟨ds.length - (i + 1), by omega, rfl, hlt, h⟩, fun x H3 y => ?_⟩
      obtain ⟨d, hdi, yl⟩ := p1.yld i H2 x H3 pm hlt y
      have ed : ds[i] = d := by
        rw [List.getElem?_eq_getElem hlt] at hdi
        exact Option.some.inj hdi
      rw [ed] at q2
      obtain ⟨F3, f3, g3, s3, hxr⟩ := (yl.mono f2).keep s2
      cases htg : tgSet t d e2 with
      | none =>
        unfold forL at q2
        rw [htg] at q2
        exact q2.elim
      | some e3 =>
        refine tg_run s3 hxr htg fun σ' _ s4 => ?_
        refine ⟨e3, lk, F3, R2, s4, fin.forL (fin.up f3 (KeepR.refl _) q2) htg fun σ5 H5 F5 R5 e5 f5 k5 s5 q5 => ⟨e5, F5, R5, (f2.trans f3).trans f5, s5, q5⟩⟩
    · have hie : i = ds.length := by omega
      subst hie
      rw [List.drop_length] at q2
      exact .inl ⟨p1.stop H2 pm, q2.nx s2⟩
def sWhile (c : Ev → Res Bool) (kl : List Nat) (f : SS) : Nat → SS
  | 0 => fun _ => .no
  | n + 1 => fun e => match c e with
    | .ok true => (match f e with
      | .nx e2 => sWhile c kl f n (killS kl e2)
      | .ct e2 => sWhile c kl f n (killS kl e2)
      | .bk e2 => .nx (killS kl e2)
      | o => o)
    | .ok false => .nx e
    | .ex c => .ex c e
    | .no => .no
theorem cs_while {c : Expr} {body : List Stmt} {gc : Ev → Res Bool} {kl : List Nat} {n : Nat} (hp : PassesOwn (model X.prog X.w) X.A X.env X.xe) (hc : CT X W c gc) (hb : CSs X W body f) : CS X W (.While c body [] pos) (sWhile gc kl f n) := (ps_while hp hc hb).imp fun D σ H q => by
  obtain ⟨e, lk, F, R, s, q⟩ := q
  refine ⟨fun m σ H => ∃ e lk F R, SR X.K X.mg lk F R σ H e ∧ fin X.K X.mg W lk F R D (sWhile gc kl f m e), ⟨n, e, lk, F, R, s, q⟩, ?_⟩
  rintro m σ2 H2 ⟨e2, lk2, F2, R2, s2, q2⟩
  cases m with
  | zero => exact q2.elim
  | succ m =>
    refine ⟨e2, lk2, F2, R2, s2, ?_⟩
    unfold sWhile at q2
    cases hx : gc e2 with
    | ex c => rw [hx] at q2; exact fun C H3 F3 m f3 g3 s3 => q2 C σ2 H3 F3 R2 m f3 (KeepR.refl _) s3
    | no => rw [hx] at q2; exact q2
    | ok b =>
      rw [hx] at q2
      intro b' H3 F3 f3 g3 s3 eb
      cases eb
      cases b with
      | false =>
        rw [if_neg Bool.false_ne_true]
        exact (fin.up f3 (KeepR.refl _) q2).nx s3
      | true =>
        rw [if_pos rfl]
        refine ⟨fun σ H => ∃ e lk F R, SR X.K X.mg lk F R σ H e ∧ fin X.K X.mg W lk F R D (sWhile gc kl f m e), fun σ' H' h => ⟨m, Nat.lt_succ_self _, h⟩, e2, lk2, F3, R2, s3, ?_⟩
        have q3 := fin.up f3 (KeepR.refl _) q2
        dsimp only at q3
        cases hf : f e2 with
        | nx e4 => rw [hf] at q3; exact fun σ4 H4 F4 R4 f4 k4 s4 => ⟨_, lk2, F4, R4, s4.kill kl, fin.up f4 k4 q3⟩
        | ct e4 => rw [hf] at q3; exact fun σ4 H4 F4 R4 f4 k4 s4 => ⟨_, lk2, F4, R4, s4.kill kl, fin.up f4 k4 q3⟩
        | bk e4 => rw [hf] at q3; exact fun σ4 H4 F4 R4 f4 k4 s4 => q3 σ4 H4 F4 R4 f4 k4 (s4.kill kl)
        | rt d => rw [hf] at q3; exact q3
        | rl ds => rw [hf] at q3; exact q3
        | rg d => rw [hf] at q3; exact q3
        | rs e' d => rw [hf] at q3; exact q3
        | ex c e' => rw [hf] at q3; exact q3
        | no => rw [hf] at q3; exact q3
end
end VL
end
section
set_option Elab.async false
set_option linter.all false
set_option maxRecDepth 100000
set_option autoImplicit false
set_option maxHeartbeats 4000000
/-! The value layer: stores, raises, calls, defs. -/
namespace VL
open PySem PySem.Spec PyProof.Rows L2

section
variable {X : Cx} {W : WX} {i j : Nat} {ex ei : Expr} {fe fi : Ev → Res PyData} {fl : Ev → Res (List PyData)} {pos pos' apos cpos : Pos}
/-! ### a list of the frame's own changes -/
def onOw (i : Nat) (e : Ev) (g : List PyData → Out) : Out := match e[i]? with
  | some (.ow ds) => g ds
  | _ => .no
def sApp (i : Nat) (fe : Ev → Res PyData) : SS := fun e => onOw i e fun ds => thn (fe e) e fun d => if small (ds.length + 1) then .nx (e.set i (.ow (ds ++ [d]))) else .no
theorem small_lt {n : Nat} (h : small (n + 1) = true) : n < sizeLine := Nat.lt_of_succ_le (small_le h)
theorem cs_app (hv : PE X ei (tVar i)) (he : CE X W ex fe) (hbase : attributeBase ei "append" X.env (eval ei X.env) = eval ei X.env := by rfl)
    (hfew : ((backTo cpos (starEach (ex :: []) X.env)).all (fun x => !x.1) && (backToKw cpos (keywordEach [] X.env)).all (fun x => x.1.isSome)
      && decide ((ex :: []).length + ([] : List Keyword).length + (if ([] : List Keyword).isEmpty then 0 else 1) < 30)) = true := by rfl)
    (hline : (apos.endLine == cpos.line) = true := by rfl) (hs : starEach (ex :: []) X.env = (false, eval ex X.env) :: starEach [] X.env := by rfl) (hplain : (backTo cpos (starEach [] X.env)).any (·.1) = false := by rfl)
    (hsw : swapsWith (.Call (.Attribute ei "append" apos) [ex] [] cpos) none pos.line X.env = pure false := by rfl) :
    CS X W (.Expr (.Call (.Attribute ei "append" apos) [ex] [] cpos) pos) (sApp i fe) :=
  (ps_expr (pe_bm PySem.F.plainAttrs_list PySem.F.slot_list_append PySem.F.type_list_append mt_append hv (pa_cons he pa_nil hs) hbase hfew hline hs hplain) hsw).imp fun D σ H q => by
  obtain ⟨e, lk, F, R, s, q⟩ := q
  unfold sApp onOw at q
  split at q
  · rename_i ds he
    obtain ⟨p, vs, hx, hp, nf, nr, ha, _⟩ := s.mutO he
    refine ⟨.ref p, hx, .inl ⟨rfl, _, SqL.of hp⟩, e, lk, F, R, s, fin.bind q fun d v H1 F1 f1 g1 s1 p1 q1 => ?_⟩
    obtain ⟨p', vs', hx', hp', nf', nr', ha', k⟩ := s1.mutO he
    rw [hx] at hx'
    cases hx'
    have hv : vs' = vs := by
      have := g1 _ _ hp
      rw [hp'] at this
      cases this
      rfl
    subst hv
    by_cases hsm : small (ds.length + 1) = true
    · rw [if_pos hsm] at q1
      refine ⟨p, vs', v, rfl, rfl, hp', by rw [ha'.len]; exact small_lt hsm, ?_⟩
      exact q1 _ _ F1 _ (Same.refl _) KeepR.sl (k _ _ (ha'.app (.cons p1 .nil)))
    · rw [if_neg hsm] at q1
      exact q1.elim
  · exact q.elim
def sExt (i : Nat) (fl : Ev → Res (List PyData)) : SS := fun e => onOw i e fun ds => thn (fl e) e fun es => if small (ds.length + es.length) then .nx (e.set i (.ow (ds ++ es))) else .no
theorem cs_ext (hv : PE X ei (tVar i)) (he : CF X W ex fl) (hbase : attributeBase ei "extend" X.env (eval ei X.env) = eval ei X.env := by rfl)
    (hfew : ((backTo cpos (starEach (ex :: []) X.env)).all (fun x => !x.1) && (backToKw cpos (keywordEach [] X.env)).all (fun x => x.1.isSome)
      && decide ((ex :: []).length + ([] : List Keyword).length + (if ([] : List Keyword).isEmpty then 0 else 1) < 30)) = true := by rfl)
    (hline : (apos.endLine == cpos.line) = true := by rfl) (hs : starEach (ex :: []) X.env = (false, eval ex X.env) :: starEach [] X.env := by rfl) (hplain : (backTo cpos (starEach [] X.env)).any (·.1) = false := by rfl)
    (hsw : swapsWith (.Call (.Attribute ei "extend" apos) [ex] [] cpos) none pos.line X.env = pure false := by rfl) :
    CS X W (.Expr (.Call (.Attribute ei "extend" apos) [ex] [] cpos) pos) (sExt i fl) :=
  (ps_expr (pe_bm PySem.F.plainAttrs_list PySem.F.slot_list_extend PySem.F.type_list_extend mt_extend hv (pa_cons he pa_nil hs) hbase hfew hline hs hplain) hsw).imp fun D σ H q => by
  obtain ⟨e, lk, F, R, s, q⟩ := q
  unfold sExt onOw at q
  split at q
  · rename_i ds he
    obtain ⟨p, vs, hx, hp, nf, nr, ha, _⟩ := s.mutO he
    refine ⟨.ref p, hx, .inl ⟨rfl, _, SqL.of hp⟩, e, lk, F, R, s, fin.bind q fun es v H1 F1 f1 g1 s1 p1 q1 => ?_⟩
    obtain ⟨p', vs', hx', hp', nf', nr', ha', k⟩ := s1.mutO he
    rw [hx] at hx'
    cases hx'
    have hv : vs' = vs := by
      have := g1 _ _ hp
      rw [hp'] at this
      cases this
      rfl
    subst hv
    by_cases hsm : small (ds.length + es.length) = true
    · rw [if_pos hsm] at q1
      obtain ⟨b, ws, rfl, hb, _, _, hr⟩ := p1
      refine ⟨p, b, vs', ws, rfl, rfl, hp', hb, by rw [ha'.len, hr.len]; exact small_le hsm, ?_⟩
      exact q1 _ _ F1 _ (Same.refl _) KeepR.sl (k _ _ (ha'.app hr))
    · rw [if_neg hsm] at q1
      exact q1.elim
  · exact q.elim
/-- x[k] = e -/
def sPut (i : Nat) (fi fe : Ev → Res PyData) : SS := fun e => thn (fe e) e fun d => onOw i e fun ds => thn (fi e) e fun k => match k with
  | .int k => (match ixN ds.length k with
    | some j => .nx (e.set i (.ow (ds.set j d)))
    | none => .no)
  | _ => .no
theorem cs_put {ek : Expr} (he : CE X W ex fe) (hg : PG X (.Subscript ei ek pos') (gSub (tVar i) (tX X.K X.mg W (pB X.K X.mg) fi) rSetL))
    (hs : swapsWithSole [.Subscript ei ek pos'] ex pos.line X.env = pure false := by rfl) (hw : swappedStores [.Subscript ei ek pos'] ex X.env = pure none := by rfl) :
    CS X W (.Assign [.Subscript ei ek pos'] ex pos) (sPut i fi fe) := (ps_asg he hg hs hw).imp fun D σ H q => by
  obtain ⟨e, lk, F, R, s, q⟩ := q
  refine ⟨e, lk, F, R, s, fin.bind q fun d v H1 F1 f1 g1 s1 p1 q1 => ?_⟩
  unfold onOw at q1
  split at q1
  · rename_i ds he
    obtain ⟨p, vs, hx, hp, _⟩ := s1.mutO he
    refine ⟨.ref p, hx, e, lk, F1, R, s1, fin.bind q1 fun kd kv H2 F2 f2 g2 s2 p2 q2 => ?_⟩
    obtain ⟨p', vs', hx', hp', nf', nr', ha', k⟩ := s2.mutO he
    rw [hx] at hx'
    cases hx'
    cases p2 with
    | int k' =>
      dsimp only at q2
      cases hk : ixN ds.length k' with
      | none => rw [hk] at q2; exact q2.elim
      | some j =>
        rw [hk] at q2
        refine ⟨p, vs', k', j, rfl, rfl, hp', by rw [ha'.len]; exact hk, ?_⟩
        exact q2 _ _ F2 _ (Same.refl _) KeepR.sl (k _ _ (ha'.set (p1.mono f2) j))
    | _ => exact q2.elim
  · exact q1.elim
/-- x.append(y.pop(k)) -/
def sAppPop (i j : Nat) (fi : Ev → Res PyData) : SS := fun e => onOw i e fun xs => onOw j e fun ys => thn (fi e) e fun k => match k with
  | .int k => if decide (0 ≤ k ∧ k < ys.length ∧ k < 100000) && small (xs.length + 1) && decide (i ≠ j) then (match ys[k.toNat]? with
      | some y => .nx ((e.set j (.ow (ys.eraseIdx k.toNat))).set i (.ow (xs ++ [y])))
      | none => .no) else .no
  | _ => .no
theorem cs_appPop {ej ek : Expr} {apos2 cpos2 : Pos} (hv : PE X ei (tVar i)) (hj : PE X ej (tVar j)) (hk : CB X W ek fi)
    (hpop : ∀ {to ti : TE}, PE X ej to → PE X ek ti → PE X (.Call (.Attribute ej "pop" apos2) [ek] [] cpos2) (tBM X.K "list" rPopAt to (tCons ti tNil)))
    (happ : ∀ {to ti : TE}, PE X ei to → PE X (.Call (.Attribute ej "pop" apos2) [ek] [] cpos2) ti → PE X (.Call (.Attribute ei "append" apos) [.Call (.Attribute ej "pop" apos2) [ek] [] cpos2] [] cpos) (tBM X.K "list" rAppend to (tCons ti tNil)))
    (hsw : swapsWith (.Call (.Attribute ei "append" apos) [.Call (.Attribute ej "pop" apos2) [ek] [] cpos2] [] cpos) none pos.line X.env = pure false := by rfl) :
    CS X W (.Expr (.Call (.Attribute ei "append" apos) [.Call (.Attribute ej "pop" apos2) [ek] [] cpos2] [] cpos) pos) (sAppPop i j fi) := (ps_expr (happ hv (hpop hj hk)) hsw).imp fun D σ H q => by
  obtain ⟨e, lk, F, R, s, q⟩ := q
  unfold sAppPop at q
  unfold onOw at q
  split at q
  · rename_i xs hex
    split at q
    · rename_i ys hey
      obtain ⟨p, vs, hx, hp, _⟩ := s.mutO hex
      obtain ⟨p2, ws, hy, hp2, _⟩ := s.mutO hey
      refine ⟨.ref p, hx, .inl ⟨rfl, _, SqL.of hp⟩, .ref p2, hy, .inl ⟨rfl, _, SqL.of hp2⟩, e, lk, F, R, s, fin.bind q fun kd kv H2 F2 f2 g2 s2 q3 q2 => ?_⟩
      obtain ⟨p', vs', hx', hp', nf', nr', ha', k'⟩ := s2.mutO hey
      rw [hy] at hx'
      cases hx'
      cases q3 with
      | int k =>
        dsimp only at q2
        by_cases hc : (decide (0 ≤ k ∧ k < ys.length ∧ k < 100000) && small (xs.length + 1) && decide (i ≠ j)) = true
        · rw [if_pos hc] at q2
          rw [Bool.and_eq_true, Bool.and_eq_true] at hc
          obtain ⟨⟨h1, h2⟩, h3⟩ := hc
          have hk := of_decide_eq_true h1
          have hij : i ≠ j := of_decide_eq_true h3
          cases hyk : ys[k.toNat]? with
          | none => rw [hyk] at q2; exact q2.elim
          | some y =>
            rw [hyk] at q2
            obtain ⟨yv, hyv, hry⟩ := ha'.get hyk
            refine ⟨p2, vs', k, k.toNat, yv, rfl, rfl, hp', by omega, by omega, ?_, hyv, ?_⟩
            · rw [ha'.len]
              exact seqIndex_of hk.1 hk.2.1
            · have s3 := k' _ _ (ha'.erase k.toNat)
              have hex' : (e.set j (.ow (ys.eraseIdx k.toNat)))[i]? = some (.ow xs) := by
                rw [List.getElem?_set_ne (Ne.symm hij)]
                exact hex
              obtain ⟨p3, vs3, hx3, hp3, _, _, ha3, k3⟩ := s3.mutO hex'
              rw [hx] at hx3
              cases hx3
              refine ⟨p, vs3, yv, rfl, rfl, hp3, by rw [ha3.len]; exact small_lt h2, ?_⟩
              exact q2 _ _ F2 _ (Same.refl _) (KeepR.sl.trans KeepR.sl) (k3 _ _ (ha3.app (.cons hry .nil)))
        · rw [if_neg hc] at q2
          exact q2.elim
      | _ => exact q2.elim
    · exact q.elim
  · exact q.elim
/-! ### a, b = .. -/
def sUnp (is : List Nat) (fe : Ev → Res PyData) : SS := fun e => thn (fe e) e fun d => match tgSet (.tp is) d e with
  | some e' => .nx e'
  | none => .no
theorem cs_unp {tg : Expr} {is : List Nat} (he : CE X W ex fe) (hg : PG X tg (gOf X.K (.tp is))) (hs : swapsWithSole [tg] ex pos.line X.env = pure false := by rfl) (hw : swappedStores [tg] ex X.env = pure none := by rfl) (h1 : (assignEach [tg] X.env).map (·.2) = [assign tg X.env] := by rfl) :
    CS X W (.Assign [tg] ex pos) (sUnp is fe) := (ps_asg he hg hs hw h1).imp fun D σ H q => by
  obtain ⟨e, lk, F, R, s, q⟩ := q
  refine ⟨e, lk, F, R, s, fin.bind q fun d v H1 F1 f1 g1 s1 p1 q1 => ?_⟩
  cases ht : tgSet (.tp is) d e with
  | none => rw [ht] at q1; exact q1.elim
  | some e' =>
    rw [ht] at q1
    exact tg_run s1 p1 ht fun σ' _ s2 => q1.nx s2
/-- out of a list -/
def sUnpL (is : List Nat) (fe : Ev → Res PyData) : SS := fun e => thn (fe e) e fun d => match d with
  | .list ds => if ds.length = is.length then .nx (setsE e is ds) else .no
  | _ => .no
theorem cs_unpL {tg : Expr} {is : List Nat} (he : CE X W ex fe) (hg : PG X tg (gLst X.K is.length (gNames is))) (hs : swapsWithSole [tg] ex pos.line X.env = pure false := by rfl) (hw : swappedStores [tg] ex X.env = pure none := by rfl) (h1 : (assignEach [tg] X.env).map (·.2) = [assign tg X.env] := by rfl) :
    CS X W (.Assign [tg] ex pos) (sUnpL is fe) := (ps_asg he hg hs hw h1).imp fun D σ H q => by
  obtain ⟨e, lk, F, R, s, q⟩ := q
  refine ⟨e, lk, F, R, s, fin.bind q fun d v H1 F1 f1 g1 s1 p1 q1 => ?_⟩
  cases p1 with
  | @lst a vs ds hp hr =>
    dsimp only at q1
    by_cases hl : ds.length = is.length
    · rw [if_pos hl] at q1
      refine ⟨a, vs, rfl, SqL.of (s1.fh _ _ hp), by rw [hr.len, hl], ?_⟩
      exact sets_run is ds vs s1 (fun _ _ => rfl) (fun _ h => h) hr hl fun σ' _ s2 => q1.nx s2
    · rw [if_neg hl] at q1
      exact q1.elim
  | _ => exact q1.elim
/-- a, b = x, y -/
def sPar (i j : Nat) (fr : Ev → Res (List PyData)) : SS := fun e => thn (fr e) e fun ds => match ds with
  | [d, d'] => .nx ((e.set i (.fz d)).set j (.fz d'))
  | _ => .no
theorem cs_par {x y : Str} {a b : Expr} {px py pt : Pos} {kt k2 pt2} (hc : X.calm = true) (hN : X.N.Nodup) (hi : X.N[i]? = some x) (hj : X.N[j]? = some y) (hij : i ≠ j)
    (hx : X.env.scope.names.lookup x = some .local) (hy : X.env.scope.names.lookup y = some .local) (ha : CAE X W [a, b] fl)
    (hw : swappedStores [.Tuple [.Name x px, .Name y py] kt pt] (.Tuple [a, b] k2 pt2) X.env = pure (some [x, y]))
    (hs : swapsWithSole [.Tuple [.Name x px, .Name y py] kt pt] (.Tuple [a, b] k2 pt2) pos.line X.env = pure false := by rfl) :
    CS X W (.Assign [.Tuple [.Name x px, .Name y py] kt pt] (.Tuple [a, b] k2 pt2) pos) (sPar i j fl) := (ps_par hc hN hi hj hij hx hy ha hw hs).imp fun D σ H q => by
  obtain ⟨e, lk, F, R, s, q⟩ := q
  unfold sPar at q
  refine ⟨e, lk, F, R, s, ?_⟩
  cases hx : fl e with
  | ex c => rw [hx] at q; exact fun C H2 F2 m f2 g2 s2 => q C σ H2 F2 R m f2 (KeepR.refl _) s2
  | no => rw [hx] at q; exact q
  | ok ds =>
    rw [hx] at q
    intro vs H1 F1 f1 g1 s1 p1
    rw [thn_ok] at q
    have p2 := RpA.of_paired p1
    split at q
    · rename_i d d'
      obtain ⟨v, v', rfl, h, h'⟩ := p2.two
      exact ⟨v, v', rfl, q _ _ F1 R f1 (KeepR.refl _) ((s1.setF i h).setF j h')⟩
    · exact q.elim
/-! ### raise -/
def sRaise (c : Str) : SS := fun e => .ex c e
theorem cs_raise {c : Str} {C : Addr} (hc : X.calm = true) (tk : Takes X W) (hm : X.mg c = some (.ref C)) (he : PMk X ex (fun _ H Q => Q (.ref C) none H)) : CS X W (.Raise (some ex) none pos) (sRaise c) := (ps_raise hc tk he).imp fun D σ H q => by
  obtain ⟨e, lk, F, R, s, q⟩ := q
  exact q C σ H F R hm (Same.refl _) (KeepR.refl _) s
/-! ### y = [.. for ..] -/
theorem cs_lcF {x : Str} {py : Pos} {elt tg iter : Expr} {ifs : List Expr} {scope : Scope} {own : List (Str × Nat)} {p2 spos : Pos} {t : Tg} {vs : List Nat} {ft : Ev → Res Bool} (hc : X.calm = true) (hN : X.N.Nodup) (hy : X.N[i]? = some x) (hyl : X.env.scope.names.lookup x = some .local)
    (hsw : swapsWith (.ListComp elt [⟨tg, iter, ifs, 0⟩] scope p2) (some (.Name x py)) spos.line X.env = pure true) (hi : CJ X W tg iter fl) (ok : BlkOk X.N X.env.scope scope own) (hvs : own.map (·.2) = vs) (hti : ∀ i ∈ t.ids, i ∈ vs)
    (hg : Blk X scope fun Y => PG Y tg (gOf Y.K t)) (ht : Blk X scope fun Y => PTs Y ifs (tX Y.K Y.mg W0 pT ft)) (he : Blk X scope fun Y => CE Y W0 elt fe) (hs : ∀ x, foldedSetIterable iter X.env x = pure x := by intro _; rfl) :
    CS X W (.Assign [.Name x py] (.ListComp elt [⟨tg, iter, ifs, 0⟩] scope p2) spos) (sAsgF i (lcF t vs fl ft fe)) := by
  subst hvs
  exact (ps_setLc hc hN hy hyl hsw hi ok hg ht he hs).imp (x_asgF (x_lc hti))
theorem cs_lcE {x : Str} {py : Pos} {elt tg iter : Expr} {ifs : List Expr} {scope : Scope} {own : List (Str × Nat)} {p2 spos : Pos} {t : Tg} {vs : List Nat} {ft : Ev → Res Bool} (hc : X.calm = true) (hN : X.N.Nodup) (hy : X.N[i]? = some x) (hyl : X.env.scope.names.lookup x = some .local)
    (hsw : swapsWith (.ListComp elt [⟨tg, iter, ifs, 0⟩] scope p2) (some (.Name x py)) spos.line X.env = pure true) (hi : CJ X W tg iter fl) (ok : BlkOk X.N X.env.scope scope own) (hvs : own.map (·.2) = vs) (hti : ∀ i ∈ t.ids, i ∈ vs)
    (hg : Blk X scope fun Y => PG Y tg (gOf Y.K t)) (ht : Blk X scope fun Y => PTs Y ifs (tX Y.K Y.mg W0 pT ft)) (he : Blk X scope fun Y => CE Y W0 elt fe) (hs : ∀ x, foldedSetIterable iter X.env x = pure x := by intro _; rfl) :
    CS X W (.Assign [.Name x py] (.ListComp elt [⟨tg, iter, ifs, 0⟩] scope p2) spos) (sAsgE i (b1 (lcF t vs fl ft fe) okL)) := by
  subst hvs
  refine (ps_setLc hc hN hy hyl hsw hi ok hg ht he hs).imp (x_asgE fun σ H Q q => x_lc hti σ H Q ?_)
  obtain ⟨e, lk, F, R, s, r⟩ := q
  refine ⟨e, lk, F, R, s, ?_⟩
  refine resOk.bind r fun ds v H' F' f g s' p r' => ?_
  obtain ⟨p, vs, rfl, hp, nf, nr, a⟩ := p
  exact r' _ _ _ (same_upd nf) (Same.refl _) (s'.keep hp nf nr) (.lst upd_same (a.mono (same_upd nf)))
end

/-! ### defs -/
inductive RF where
  | val (d : PyData)
  | lst (ds : List PyData)
  | rgn (d : PyData)
  | exc (c : Str)
  | no
def finF : Out → RF
  | .nx _ => .val .none
  | .rt d => .val d
  | .rl ds => .lst ds
  | .rg d => .rgn d
  | .ex c _ => .exc c
  | _ => .no
def runB (b : SS) (n : Nat) (ds : List PyData) : RF := finF (b (ds.map .fz ++ List.replicate (n - ds.length) .no))
section
variable (K : PySem.W.Frag) (mg : Str → Option Value)
def okF (F H : Hp) (Q : VK) (E : XK) : RF → Prop
  | .val d => ∀ v H' G, Same H H' → Same F G → Same G H' → (∀ a, H a ≠ none → F a = none → G a = none) → Rp K mg G v d → Q v H'
  | .lst ds => ∀ p vs H' G, Same H H' → Same F G → Same G H' → (∀ a, H a ≠ none → F a = none → G a = none) → H p = none → G p = none → H' p = some (.lst vs) → RpA K mg G vs ds → Q (.ref p) H'
  | .rgn d => ∀ v H' G, Same H H' → Same G H' → (∀ a, G a ≠ none → H a = none) → Own K mg G v d → Q v H'
  | .exc c => ∀ C H', mg c = some (.ref C) → Same H H' → E (.ref C) none H'
  | .no => False
def spF (np : Nat) (g : List PyData → RF) : Sp := fun vs H Q E => ∃ F ds, Same F H ∧ RpA K mg F vs ds ∧ ds.length = np ∧ okF K mg F H Q E (g ds)
end
section
variable {P : Program} {w : World} {K : PySem.W.Frag} {mg : Str → Option Value} {base : Heap}
def baseR (F H : Hp) : Ix → Hp
  | .base => fun a => if (F a).isSome = true then none else H a
  | _ => fun _ => none
theorem baseR_ne {F H : Hp} {j : Ix} {a : Addr} (q : baseR F H j a ≠ none) : j = .base ∧ F a = none ∧ H a ≠ none := by
  cases j with
  | sl i => exact absurd rfl q
  | hid D => exact absurd rfl q
  | base =>
    have q' : (if (F a).isSome = true then none else H a) ≠ none := q
    cases hx : F a with
    | none =>
      rw [hx] at q'
      exact ⟨rfl, rfl, q'⟩
    | some o =>
      rw [hx] at q'
      exact absurd rfl q'
theorem baseR_at {F H : Hp} {a : Addr} (hf : F a = none) : baseR F H .base a = H a := by
  show (if (F a).isSome = true then none else H a) = H a
  rw [hf]
  rfl
theorem fn_ok {x qual : Str} {st : Stmt} {f : Addr} {fd : FuncData} {N ps : List Str} {k : Nat} (b : SS) (Fn : Fun K x qual st f fd) (S : FnScope N ps (defScope st)) (hN : ps.length ≤ N.length)
    (hbody : ∀ (cdv : Value) (A : Around) (outer : List Env) (s : Shared) (H : Hp) (E : XK), Room k (A.deeper (envOfC qual (defScope st) s.heap.objs.size f cdv)) →
      CSs (cxOf (L2.CX P w) P w K mg base N qual (defScope st) f cdv A outer s H E) (fun cls d _ H => E cls d H) (defBody st) b) :
    FnOk P w K mg base (L2.CX P w) (k + 1) f fd ps (spF K mg ps.length (runB b N.length)) := by
  refine Fn.okX S (fun vs H Q E h => ?_) (fun cdv A outer s H vs Q E hr h => ?_)
  · obtain ⟨F, ds, _, hr, hl, _⟩ := h
    rw [hr.len, hl]
  · obtain ⟨F, ds, hF, hR, hl, q⟩ := h
    refine ⟨_, hbody cdv A outer s H E hr, ds.map .fz ++ List.replicate (N.length - ds.length) .no, fun _ => none, F, baseR F H, ?_, ?_⟩
    · refine ⟨?_, hF, fun j a o q => ?_, fun j k a hn q => ?_, fun j a q => (baseR_ne q).2.1, fun D a q => ?_, fun i sl q => ?_⟩
      · unfold L2.start
        rw [List.length_append, List.length_append, List.length_map, List.length_map, List.length_replicate, List.length_replicate, hR.len]
      · obtain ⟨hj, hf, _⟩ := baseR_ne (F := F) (H := H) (j := j) (a := a) (by rw [q]; intro h; cases h)
        subst hj
        rw [baseR_at hf] at q
        exact q
      · obtain ⟨hj, _, _⟩ := baseR_ne q
        subst hj
        cases k with
        | base => exact absurd rfl hn
        | sl _ => rfl
        | hid _ => rfl
      · obtain ⟨hj, _, _⟩ := baseR_ne q
        cases hj
      · unfold L2.start
        by_cases hi : i < ds.length
        · rw [List.getElem?_append_left (by rw [List.length_map]; exact hi), List.getElem?_map, List.getElem?_eq_getElem hi] at q
          cases q
          obtain ⟨v, hv, hr⟩ := hR.get (List.getElem?_eq_getElem hi)
          refine ⟨v, ?_, hr⟩
          have hi' : i < vs.length := by rw [hR.len]; exact hi
          rw [List.getElem?_append_left (by rw [List.length_map]; exact hi'), List.getElem?_map, hv]
          rfl
        · rw [List.getElem?_append_right (by rw [List.length_map]; omega)] at q
          have := List.mem_of_getElem? q
          rw [List.mem_replicate] at this
          rw [this.2]
          trivial
    · have conv : ∀ {H' F' : Hp} {R' : Ix → Hp}, Same F F' → KeepR (baseR F H) R' → SR K mg (fun _ => none) F' R' [] H' [] →
          Same H H' ∧ Same F' H' ∧ (∀ a, H a ≠ none → F a = none → F' a = none) := by
        intro H' F' R' f k s
        have k1 := k.1
        refine ⟨fun a o q => ?_, s.fh, fun a q hf => ?_⟩
        · cases hx : F a with
          | some u =>
            have := hF _ _ hx
            rw [q] at this
            cases this
            exact s.fh _ _ (f _ _ hx)
          | none =>
            refine s.rh .base _ _ ?_
            rw [k1, baseR_at hx]
            exact q
        · refine s.rf .base a ?_
          rw [k1, baseR_at hf]
          exact q
      unfold runB at q
      cases ho : b (ds.map .fz ++ List.replicate (N.length - ds.length) .no) with
      | nx e' =>
        rw [ho] at q
        intro σ' H' F' R' f k s
        obtain ⟨c1, c2, c3⟩ := conv f k s.bare
        exact q .non H' F' c1 f c2 c3 .non
      | rt d =>
        rw [ho] at q
        intro v H' F' R' f k s p
        obtain ⟨c1, c2, c3⟩ := conv f k s
        exact q v H' F' c1 f c2 c3 p
      | rl es =>
        rw [ho] at q
        intro p us H' F' R' f k s hp nf nb nh ha
        obtain ⟨c1, c2, c3⟩ := conv f k s
        have k1 := k.1
        refine q p us H' F' c1 f c2 c3 ?_ nf hp ha
        have hf : F p = none := f.free nf
        rw [k1, baseR_at hf] at nb
        exact nb
      | rg d =>
        rw [ho] at q
        intro v H' F' R' G f k s hg hd p
        obtain ⟨c1, c2, c3⟩ := conv f k s
        have k1 := k.1
        refine q v H' G c1 hg (fun a h => ?_) p
        obtain ⟨h1, h2⟩ := hd a h
        have hf : F a = none := f.free h1
        rw [k1, baseR_at hf] at h2
        exact h2
      | ex c e' =>
        rw [ho] at q
        intro C σ' H' F' R' m f k s
        obtain ⟨c1, c2, c3⟩ := conv f k s.bare
        exact q C H' m c1
      | rs e' d => rw [ho] at q; exact q.elim
      | bk e' => rw [ho] at q; exact q.elim
      | ct e' => rw [ho] at q; exact q.elim
      | no => rw [ho] at q; exact q.elim
/-! ### calls -/
structure Callee (P : Program) (w : World) (K : PySem.W.Frag) (mg : Str → Option Value) (base : Heap) (k : Nat) (x : Str) (np : Nat) (g : List PyData → RF) : Prop where
  ex : ∃ f fd ps, ps.length = np ∧ mg x = some (.ref f) ∧ PySem.W.keepIn K (.ref f) = true ∧ Binds K fd ps [] ∧ FnOk P w K mg base (L2.CX P w) k f fd ps (spF K mg np g)
theorem Callee.mono {k k' np : Nat} {x : Str} {g : List PyData → RF} (c : Callee P w K mg base k x np g) (h : k ≤ k') : Callee P w K mg base k' x np g := by
  obtain ⟨f, fd, ps, a, b, c, d, e⟩ := c.ex
  exact ⟨f, fd, ps, a, b, c, d, e.mono h⟩
end
def callV (g : List PyData → RF) (np : Nat) (ds : List PyData) : Res PyData := if ds.length = np then (match g ds with
  | .val d => .ok d
  | .lst ds => .ok (.list ds)
  | .exc c => .ex c
  | _ => .no) else .no
def callL (g : List PyData → RF) (np : Nat) (ds : List PyData) : Res (List PyData) := if ds.length = np then (match g ds with
  | .lst ds => .ok ds
  | .exc c => .ex c
  | _ => .no) else .no
/-- of arguments that are only looked at: a flat value, a list of flat ones -/
def callVB (g : List PyData → RF) (np : Nat) (ds : List PyData) : Res PyData := if ds.length = np then (match g ds with
  | .val d => if flatD d then .ok d else .no
  | .exc c => .ex c
  | _ => .no) else .no
def callLB (g : List PyData → RF) (np : Nat) (ds : List PyData) : Res (List PyData) := if ds.length = np then (match g ds with
  | .lst ds => if ds.all flatD then .ok ds else .no
  | .exc c => .ex c
  | _ => .no) else .no
section
variable {X : Cx} {W : WX} {x : Str} {p pos : Pos} {ex : Expr} {es : List Expr} {fr : Ev → Res (List PyData)} {g : List PyData → RF} {k np : Nat}
theorem ce_call (c : Callee X.prog X.w X.K X.mg X.base k x np g) (hr : Room k X.A) (tk : Takes X W) (hg : Gl X x) (ha : CAE X W (ex :: es) fr) (hdb : (x == ("__debug__" : Str)) = false := by decide) (he : starEach (ex :: es) X.env = (false, eval ex X.env) :: starEach es X.env := by rfl)
    (hpl : (backTo pos (starEach es X.env)).any (·.1) = false := by rfl) : CE X W (.Call (.Name x p) (ex :: es) [] pos) (b1 fr (callV g np)) := by
  obtain ⟨f, fd, ps, _, hm, hk, hb, F⟩ := c.ex
  refine (pe_callS F hr hg hm hk hb (fun σ => passAt tk σ) ha hdb he hpl).imp fun σ H Q q => ?_
  obtain ⟨e, lk, F0, R, s, q⟩ := q
  refine ⟨e, lk, F0, R, s, resOk.bind q fun ds vs H1 F1 f1 g1 s1 p1 q1 => ?_⟩
  unfold callV at q1
  by_cases hl : ds.length = np
  · rw [if_pos hl] at q1
    refine ⟨F1, ds, s1.fh, RpA.of_paired p1, hl, ?_⟩
    have newSR : ∀ {H' G : Hp}, Same H1 H' → Same F1 G → Same G H' → (∀ a, H1 a ≠ none → F1 a = none → G a = none) → SR X.K X.mg lk G R σ H' e := fun {H' G} a b c d => by
      have s2 := s1.heap a
      refine ⟨s2.len, c, s2.rh, s2.rr, fun j a q => ?_, s2.hid, fun i x q => (s2.at_ i x q).mono b⟩
      obtain ⟨o, ho⟩ := nn_some q
      exact d a (by rw [s1.rh j _ _ ho]; intro h; cases h) (s1.rf j a q)
    cases hg : g ds with
    | val d =>
      rw [hg] at q1
      exact fun v H' G a b c d' r => q1 v H' G b a (newSR a b c d') r
    | lst ds' =>
      rw [hg] at q1
      intro p ws H' G a b c d' np nG hp r
      have s2 := newSR a b c d'
      have nr : ∀ j, R j p = none := fun j => s1.newR np j
      exact q1 _ H' _ (b.trans (same_upd nG)) a (s2.keep hp nG nr) (.lst upd_same (r.mono (same_upd nG)))
    | exc c =>
      rw [hg] at q1
      exact fun C H' m a => q1 C H' F1 m (Same.refl _) a (s1.heap a)
    | rgn d => rw [hg] at q1; exact q1.elim
    | no => rw [hg] at q1; exact q1.elim
  · rw [if_neg hl] at q1
    exact q1.elim
theorem cf_call (c : Callee X.prog X.w X.K X.mg X.base k x np g) (hr : Room k X.A) (tk : Takes X W) (hg : Gl X x) (ha : CAE X W (ex :: es) fr) (hdb : (x == ("__debug__" : Str)) = false := by decide) (he : starEach (ex :: es) X.env = (false, eval ex X.env) :: starEach es X.env := by rfl)
    (hpl : (backTo pos (starEach es X.env)).any (·.1) = false := by rfl) : CF X W (.Call (.Name x p) (ex :: es) [] pos) (b1 fr (callL g np)) := by
  obtain ⟨f, fd, ps, _, hm, hk, hb, F⟩ := c.ex
  refine (pe_callS F hr hg hm hk hb (fun σ => passAt tk σ) ha hdb he hpl).imp fun σ H Q q => ?_
  obtain ⟨e, lk, F0, R, s, q⟩ := q
  refine ⟨e, lk, F0, R, s, resOk.bind q fun ds vs H1 F1 f1 g1 s1 p1 q1 => ?_⟩
  unfold callL at q1
  by_cases hl : ds.length = np
  · rw [if_pos hl] at q1
    refine ⟨F1, ds, s1.fh, RpA.of_paired p1, hl, ?_⟩
    cases hg : g ds with
    | val d => rw [hg] at q1; exact q1.elim
    | lst ds' =>
      rw [hg] at q1
      intro p ws H' G a b c d' np nG hp r
      have s2 : SR X.K X.mg lk G R σ H' e := by
        have s2 := s1.heap a
        refine ⟨s2.len, c, s2.rh, s2.rr, fun j a q => ?_, s2.hid, fun i x q => (s2.at_ i x q).mono b⟩
        obtain ⟨o, ho⟩ := nn_some q
        exact d' a (by rw [s1.rh j _ _ ho]; intro h; cases h) (s1.rf j a q)
      exact q1 _ H' G b a s2 ⟨p, ws, rfl, hp, nG, fun j => s1.newR np j, r⟩
    | exc c =>
      rw [hg] at q1
      exact fun C H' m a => q1 C H' F1 m (Same.refl _) a (s1.heap a)
    | rgn d => rw [hg] at q1; exact q1.elim
    | no => rw [hg] at q1; exact q1.elim
  · rw [if_neg hl] at q1
    exact q1.elim
theorem ce_callB2 (c : Callee X.prog X.w X.K X.mg X.base k x np g) (hr : Room k X.A) (tk : Takes X W) (hg : Gl X x) (ha : CAB X W (ex :: es) fr) (hdb : (x == ("__debug__" : Str)) = false := by decide) (he : starEach (ex :: es) X.env = (false, eval ex X.env) :: starEach es X.env := by rfl)
    (hpl : (backTo pos (starEach es X.env)).any (·.1) = false := by rfl) : CE X W (.Call (.Name x p) (ex :: es) [] pos) (b1 fr (callVB g np)) := by
  obtain ⟨f, fd, ps, _, hm, hk, hb, F⟩ := c.ex
  refine (pe_callS F hr hg hm hk hb (fun σ => passAt tk σ) ha hdb he hpl).imp fun σ H Q q => ?_
  obtain ⟨e, lk, F0, R, s, q⟩ := q
  refine ⟨e, lk, F0, R, s, resOk.bind q fun ds vs H1 F1 f1 g1 s1 p1 q1 => ?_⟩
  unfold callVB at q1
  by_cases hl : ds.length = np
  · rw [if_pos hl] at q1
    refine ⟨H1, ds, Same.refl _, RpA.of_paired p1, hl, ?_⟩
    cases hg : g ds with
    | val d =>
      rw [hg] at q1
      dsimp only at q1
      by_cases hf : flatD d = true
      · rw [if_pos hf] at q1
        exact fun v H' G a b c d' r => q1 v H' F1 (Same.refl _) a (s1.heap a) (r.flat hf)
      · rw [if_neg hf] at q1
        exact q1.elim
    | lst ds' => rw [hg] at q1; exact q1.elim
    | exc c =>
      rw [hg] at q1
      exact fun C H' m a => q1 C H' F1 m (Same.refl _) a (s1.heap a)
    | rgn d => rw [hg] at q1; exact q1.elim
    | no => rw [hg] at q1; exact q1.elim
  · rw [if_neg hl] at q1
    exact q1.elim
theorem cf_callB2 (c : Callee X.prog X.w X.K X.mg X.base k x np g) (hr : Room k X.A) (tk : Takes X W) (hg : Gl X x) (ha : CAB X W (ex :: es) fr) (hdb : (x == ("__debug__" : Str)) = false := by decide) (he : starEach (ex :: es) X.env = (false, eval ex X.env) :: starEach es X.env := by rfl)
    (hpl : (backTo pos (starEach es X.env)).any (·.1) = false := by rfl) : CF X W (.Call (.Name x p) (ex :: es) [] pos) (b1 fr (callLB g np)) := by
  obtain ⟨f, fd, ps, _, hm, hk, hb, F⟩ := c.ex
  refine (pe_callS F hr hg hm hk hb (fun σ => passAt tk σ) ha hdb he hpl).imp fun σ H Q q => ?_
  obtain ⟨e, lk, F0, R, s, q⟩ := q
  refine ⟨e, lk, F0, R, s, resOk.bind q fun ds vs H1 F1 f1 g1 s1 p1 q1 => ?_⟩
  unfold callLB at q1
  by_cases hl : ds.length = np
  · rw [if_pos hl] at q1
    refine ⟨H1, ds, Same.refl _, RpA.of_paired p1, hl, ?_⟩
    cases hg : g ds with
    | val d => rw [hg] at q1; exact q1.elim
    | lst ds' =>
      rw [hg] at q1
      dsimp only at q1
      by_cases hf : ds'.all flatD = true
      · rw [if_pos hf] at q1
        intro p ws H' G a b c d' np nG hp r
        exact q1 _ H' F1 (Same.refl _) a (s1.heap a) ⟨p, ws, rfl, hp, s1.newF np, fun j => s1.newR np j, r.flat hf⟩
      · rw [if_neg hf] at q1
        exact q1.elim
    | exc c =>
      rw [hg] at q1
      exact fun C H' m a => q1 C H' F1 m (Same.refl _) a (s1.heap a)
    | rgn d => rw [hg] at q1; exact q1.elim
    | no => rw [hg] at q1; exact q1.elim
  · rw [if_neg hl] at q1
    exact q1.elim
end
end VL
end
section
set_option Elab.async false
set_option linter.all false
set_option maxRecDepth 100000
set_option autoImplicit false
set_option maxHeartbeats 4000000
/-! The value layer: more built-ins. -/
namespace VL
open PySem PySem.Spec PyProof.Rows L2

theorem in_room {k : Nat} {A : Around} (h : Room k A) : A.units + 65 < cLine := by have := h.un; omega
/-! ### sorting by an int key -/
section
variable {α : Type} (key : α → Int)
def insK (x : α) : List α → List α
  | [] => [x]
  | y :: ys => if key x ≤ key y then x :: y :: ys else y :: insK x ys
def sortK : List α → List α
  | [] => []
  | x :: xs => insK key x (sortK xs)
theorem insK_perm (x : α) : ∀ l : List α, (insK key x l).Perm (x :: l)
  | [] => List.Perm.refl _
  | y :: ys => by
    unfold insK
    split
    · exact List.Perm.refl _
    · exact ((insK_perm x ys).cons y).trans (List.Perm.swap x y ys)
theorem sortK_perm : ∀ l : List α, (sortK key l).Perm l
  | [] => List.Perm.refl _
  | x :: xs => (insK_perm key x (sortK key xs)).trans ((sortK_perm xs).cons x)
theorem insK_sorted (x : α) : ∀ l : List α, l.Pairwise (fun a b => key a ≤ key b) → (insK key x l).Pairwise (fun a b => key a ≤ key b)
  | [], _ => List.pairwise_singleton _ _
  | y :: ys, h => by
    unfold insK
    split
    · rename_i hxy
      refine List.Pairwise.cons (fun z hz => ?_) h
      rcases List.mem_cons.mp hz with rfl | hz
      · exact hxy
      · exact Int.le_trans hxy ((List.pairwise_cons.mp h).1 z hz)
    · rename_i hxy
      refine List.Pairwise.cons (fun z hz => ?_) (insK_sorted x ys (List.pairwise_cons.mp h).2)
      rcases List.mem_cons.mp ((insK_perm key x ys).mem_iff.mp hz) with rfl | hz
      · omega
      · exact (List.pairwise_cons.mp h).1 z hz
theorem sortK_sorted : ∀ l : List α, (sortK key l).Pairwise (fun a b => key a ≤ key b)
  | [] => List.Pairwise.nil
  | x :: xs => insK_sorted key x _ (sortK_sorted xs)
theorem sorted_one {key : α → Int} : ∀ {l m : List α}, l.Perm m → l.Pairwise (fun a b => key a ≤ key b) → m.Pairwise (fun a b => key a ≤ key b) → (∀ a ∈ l, ∀ b ∈ l, key a = key b → a = b) → l = m
  | [], m, p, _, _, _ => by
    have := p.length_eq
    cases m with
    | nil => rfl
    | cons _ _ => simp at this
  | x :: xs, m, p, hl, hm, inj => by
    cases m with
    | nil =>
      have := p.length_eq
      simp at this
    | cons y ys =>
      have hxy : x = y := by
        have h1 : key y ≤ key x := by
          rcases List.mem_cons.mp (p.mem_iff.mp List.mem_cons_self) with e | hx
          · rw [e]; exact Int.le_refl _
          · exact (List.pairwise_cons.mp hm).1 x hx
        have hy := p.mem_iff.mpr (List.mem_cons_self (a := y) (l := ys))
        have h2 : key x ≤ key y := by
          rcases List.mem_cons.mp hy with e | hy
          · rw [e]; exact Int.le_refl _
          · exact (List.pairwise_cons.mp hl).1 y hy
        exact inj x List.mem_cons_self y hy (by omega)
      subst hxy
      rw [sorted_one (List.Perm.cons_inv p) (List.pairwise_cons.mp hl).2 (List.pairwise_cons.mp hm).2 fun a ha b hb => inj a (List.mem_cons_of_mem _ ha) b (List.mem_cons_of_mem _ hb)]
end
section
variable {K : PySem.W.Frag} {mg : Str → Option Value}
theorem RpA.perm {H : Hp} {vs ws : List V} {ds : List PyData} (p : ws.Perm vs) (h : RpA K mg H vs ds) : ∃ es, RpA K mg H ws es ∧ es.Perm ds := by
  induction p generalizing ds with
  | nil =>
    cases h
    exact ⟨[], .nil, List.Perm.refl _⟩
  | cons x p ih =>
    cases h with
    | cons h t =>
      obtain ⟨es, h1, h2⟩ := ih t
      exact ⟨_ :: es, .cons h h1, h2.cons _⟩
  | swap x y l =>
    cases h with
    | cons h t =>
      cases t with
      | cons h' t => exact ⟨_, .cons h' (.cons h t), List.Perm.swap _ _ _⟩
  | trans p q ih1 ih2 =>
    obtain ⟨es, h1, h2⟩ := ih2 h
    obtain ⟨fs, h3, h4⟩ := ih1 h1
    exact ⟨fs, h3, h4.trans h2⟩
/-- pairs of small numbers -/
def pairOf : PyData → Option (Int × Int)
  | .tuple [.int a, .int b] => if decide (0 ≤ a ∧ a < 64 ∧ 0 ≤ b ∧ b < 64) then some (a, b) else none
  | _ => none
def pD (p : Int × Int) : PyData := .tuple [.int p.1, .int p.2]
def pairsOf : List PyData → Option (List (Int × Int))
  | [] => some []
  | d :: ds => match pairOf d, pairsOf ds with
    | some p, some ps => some (p :: ps)
    | _, _ => none
def okP (p : Int × Int) : Prop := 0 ≤ p.1 ∧ p.1 < 64 ∧ 0 ≤ p.2 ∧ p.2 < 64
theorem pairOf_eq {d : PyData} {p : Int × Int} (h : pairOf d = some p) : d = pD p ∧ okP p := by
  unfold pairOf at h
  split at h
  · rename_i a b
    by_cases hc : decide (0 ≤ a ∧ a < 64 ∧ 0 ≤ b ∧ b < 64) = true
    · rw [if_pos hc] at h
      cases h
      exact ⟨rfl, (of_decide_eq_true hc : 0 ≤ a ∧ a < 64 ∧ 0 ≤ b ∧ b < 64)⟩
    · rw [if_neg hc] at h
      cases h
  · cases h
theorem pairsOf_eq : ∀ {ds : List PyData} {ps : List (Int × Int)}, pairsOf ds = some ps → ds = ps.map pD ∧ ∀ p ∈ ps, okP p
  | [], ps, h => by
    cases h
    exact ⟨rfl, fun _ h => by cases h⟩
  | d :: ds, ps, h => by
    unfold pairsOf at h
    split at h
    · rename_i p qs h1 h2
      cases h
      obtain ⟨e1, k1⟩ := pairOf_eq h1
      obtain ⟨e2, k2⟩ := pairsOf_eq h2
      refine ⟨by rw [e1, e2]; rfl, fun q hq => ?_⟩
      rcases List.mem_cons.mp hq with rfl | hq
      · exact k1
      · exact k2 q hq
    · cases h
theorem pairsOf_map : ∀ {ps : List (Int × Int)}, (∀ p ∈ ps, okP p) → pairsOf (ps.map pD) = some ps
  | [], _ => rfl
  | p :: ps, h => by
    have h1 := h p List.mem_cons_self
    have e : pairOf (pD p) = some p := by
      unfold pairOf pD
      exact if_pos (decide_eq_true (show 0 ≤ p.1 ∧ p.1 < 64 ∧ 0 ≤ p.2 ∧ p.2 < 64 from h1))
    show (match pairOf (pD p), pairsOf (ps.map pD) with | some p, some ps => some (p :: ps) | _, _ => none) = _
    rw [e, pairsOf_map fun q hq => h q (List.mem_cons_of_mem _ hq)]
def codeP (p : Int × Int) : Int := p.1 * 64 + p.2
theorem codeP_inj {p q : Int × Int} (hp : okP p) (hq : okP q) (h : codeP p = codeP q) : p = q := by
  unfold codeP at h
  obtain ⟨a, b⟩ := p
  obtain ⟨c, d⟩ := q
  obtain ⟨h1, h2, h3, h4⟩ := hp
  obtain ⟨g1, g2, g3, g4⟩ := hq
  simp only at h h1 h2 h3 h4 g1 g2 g3 g4
  have : a = c := by omega
  subst this
  have : b = d := by omega
  subst this
  rfl
theorem rp_pair {H : Hp} {v : V} {p : Int × Int} (h : Rp K mg H v (pD p)) : TupI K H v [p.1, p.2] := by
  unfold pD at h
  cases h with
  | tup hp hr =>
    cases hr with
    | cons h1 t =>
      cases t with
      | cons h2 t =>
        cases t
        cases h1
        cases h2
        exact ⟨_, rfl, SqT.of hp⟩
def unP : PyData → Int × Int
  | .tuple [.int a, .int b] => (a, b)
  | _ => (0, 0)
theorem unP_map : ∀ ps : List (Int × Int), (ps.map pD).map unP = ps
  | [] => rfl
  | p :: ps => by
    show unP (pD p) :: (ps.map pD).map unP = _
    rw [unP_map ps]
    rfl
theorem perm_pD {gs : List PyData} {ps : List (Int × Int)} (h : gs.Perm (ps.map pD)) : ∃ qs : List (Int × Int), gs = qs.map pD ∧ qs.Perm ps := by
  refine ⟨gs.map unP, ?_, ?_⟩
  · rw [List.map_map]
    have : ∀ g ∈ gs, (pD ∘ unP) g = g := fun g hg => by
      obtain ⟨p, _, e⟩ := List.mem_map.mp (h.mem_iff.mp hg)
      subst e
      rfl
    conv => lhs; rw [← List.map_id gs]
    exact (List.map_congr_left this).symm
  · have := h.map unP
    rwa [unP_map] at this
theorem pw_pD {F H : Hp} (s : Same F H) : ∀ {ys : List V} {qs : List (Int × Int)}, RpA K mg F ys (qs.map pD) → ys.Pairwise (fun x y => ∀ n m, TupI K H x n → TupI K H y m → TS.code 64 n ≤ TS.code 64 m) → qs.Pairwise (fun a b => codeP a ≤ codeP b)
  | [], [], _, _ => List.Pairwise.nil
  | _ :: _, [], h, _ => List.Pairwise.nil
  | [], q :: qs, h, _ => by cases h
  | y :: ys, q :: qs, h, pw => by
    cases h with
    | cons h t =>
      refine List.Pairwise.cons (fun r hr => ?_) (pw_pD s t (List.pairwise_cons.mp pw).2)
      obtain ⟨i, hi, e⟩ := List.getElem_of_mem hr
      have h1 : (qs.map pD)[i]? = some (pD r) := by rw [List.getElem?_map, List.getElem?_eq_getElem hi, e]; rfl
      obtain ⟨v, hv, hr2⟩ := t.get h1
      have := (List.pairwise_cons.mp pw).1 v (List.mem_of_getElem? hv) _ _ (rp_pair (h.mono s)) (rp_pair (hr2.mono s))
      rw [code_pair, code_pair] at this
      exact this
/-- sorted(..): ints, or pairs of small numbers -/
def sortD (d : PyData) : Option (List PyData) := match itemsD d with
  | none => none
  | some ds => if decide (ds.length < 64) then (match intsOf ds with
    | some ns => some ((sortK id ns).map .int)
    | none => (pairsOf ds).map fun ps => (sortK codeP ps).map pD) else none
end
section
variable {X : Cx} {W : WX} {a b c d : Expr} {fa fb fc fd : Ev → Res PyData} {pos p p2 : Pos}
theorem x_one {r : List V → Hp → VK → Prop} {fr : Ev → Res PyData} {hd : PyData → Option (List PyData)}
    (k : ∀ {lk F R σ H e v d ds Q}, SR X.K X.mg lk F R σ H e → Us X.K X.mg F H v d → hd d = some ds → resOk X.K X.mg W lk F R σ H e (pF X.K X.mg) Q (.ok ds) → r [v] H Q) :
    ∀ σ H Q, tX X.K X.mg W (pF X.K X.mg) (b1 fr fun d => ofO (hd d)) σ H Q → tCB r (tX X.K X.mg W (pA (pU X.K X.mg)) (aCons fr aNil)) σ H Q := by
  intro σ H Q q
  obtain ⟨e, lk, F, R, s, q⟩ := q
  refine ⟨e, lk, F, R, s, ?_⟩
  have q' : resOk X.K X.mg W lk F R σ H e (pF X.K X.mg) Q ((aCons fr aNil e).bind fun ds => match ds with | [d] => ofO (hd d) | _ => .no) := by
    unfold b1 at q
    unfold aCons aNil
    cases hf : fr e with
    | ok d => rw [hf] at q; exact q
    | ex c => rw [hf] at q; exact q
    | no => rw [hf] at q; exact q
  refine resOk.bind q' fun ds vs H1 F1 f1 g1 s1 p1 q1 => ?_
  cases p1 with
  | nil => exact q1.elim
  | cons h t =>
    cases t with
    | cons _ _ => exact q1.elim
    | nil =>
      rename_i v d
      dsimp only at q1
      cases hd' : hd d with
      | none => rw [hd'] at q1; exact q1.elim
      | some ds =>
        rw [hd'] at q1
        exact k s1 h hd' q1
theorem cf_sorted (hg : Gl X "sorted") (hm : X.mg "sorted" = none) (ha : CU X W a fa) (he : starEach [a] X.env = (false, eval a X.env) :: starEach [] X.env := by rfl) (hpl : (backTo pos (starEach [] X.env)).any (·.1) = false := by rfl) :
    CF X W (.Call (.Name "sorted" p) [a] [] pos) (b1 fa fun d => ofO (sortD d)) :=
  (pe_callB (r := fun vs H Q => rSorted X.K vs H Q ∨ rSortU X.K 2 64 vs H Q) (CallR.or cr_sorted (cr_sortT (by decide))) hg hm (by decide +kernel) (ca_u ha he) (by decide) (by decide) he hpl).imp (x_one fun {lk F R σ H e v d ds Q} s u hd q => by
    unfold sortD at hd
    cases hi : itemsD d with
    | none => rw [hi] at hd; cases hd
    | some es =>
      rw [hi] at hd
      dsimp only at hd
      obtain ⟨l, vs, rfl, hl, hr⟩ := us_items s.fh u hi
      by_cases h64 : decide (es.length < 64) = true
      · rw [if_pos h64] at hd
        have h64' := of_decide_eq_true h64
        cases hn : intsOf es with
        | some ns =>
          rw [hn] at hd
          cases hd
          have e1 := intsOf_eq hn
          subst e1
          have e2 := hr.ints
          subst e2
          rw [List.length_map] at h64'
          refine .inl ⟨l, ns, rfl, hl, h64', fun ns' t pm pw ht => ?_⟩
          have e3 : ns' = sortK id ns := sorted_one (key := id) (pm.trans (sortK_perm id ns).symm) pw (sortK_sorted id ns) fun a _ b _ h => h
          subst e3
          exact q _ _ F (Same.refl _) (same_upd ht) (s.heap (same_upd ht)) ⟨t, _, rfl, upd_same, s.newF ht, s.newR ht, RpA.of_ints _⟩
        | none =>
          rw [hn] at hd
          cases hp : pairsOf es with
          | none => rw [hp] at hd; cases hd
          | some ps =>
            rw [hp] at hd
            cases hd
            obtain ⟨e1, hok⟩ := pairsOf_eq hp
            subst e1
            have hmem : ∀ x ∈ vs, ∃ p ∈ ps, TupI X.K H x [p.1, p.2] := fun x hx => by
              obtain ⟨i, hi, e⟩ := List.getElem_of_mem hx
              have h1 : vs[i]? = some x := by rw [List.getElem?_eq_getElem hi, e]
              obtain ⟨d, hd, hr2⟩ := hr.getV h1
              rw [List.getElem?_map] at hd
              cases h2 : ps[i]? with
              | none => rw [h2] at hd; cases hd
              | some p =>
                rw [h2] at hd
                cases hd
                exact ⟨p, List.mem_of_getElem? h2, rp_pair (hr2.mono s.fh)⟩
            refine .inr ⟨l, vs, rfl, hl, by rw [hr.len]; exact h64', fun x hx => ?_, fun ys t pm pw ht => ?_⟩
            · obtain ⟨p, hp, ht⟩ := hmem x hx
              refine ⟨[p.1, p.2], ht, rfl, ?_⟩
              obtain ⟨h1, h2, h3, h4⟩ := hok p hp
              intro y hy
              simp only [List.mem_cons, List.not_mem_nil, or_false] at hy
              rcases hy with rfl | rfl
              · exact ⟨h1, h2⟩
              · exact ⟨h3, h4⟩
            · obtain ⟨gs, hg1, hg2⟩ := hr.perm pm
              obtain ⟨qs, rfl, hq2⟩ := perm_pD hg2
              have e3 : qs = sortK codeP ps := sorted_one (key := codeP) (hq2.trans (sortK_perm codeP ps).symm) (pw_pD s.fh hg1 pw) (sortK_sorted codeP ps) fun a ha b hb h => codeP_inj (hok a (hq2.mem_iff.mp ha)) (hok b (hq2.mem_iff.mp hb)) h
              subst e3
              exact q _ _ F (Same.refl _) (same_upd ht) (s.heap (same_upd ht)) ⟨t, _, rfl, upd_same, s.newF ht, s.newR ht, hg1⟩
      · rw [if_neg h64] at hd
        cases hd)
end
end VL
end
section
set_option Elab.async false
set_option linter.all false
set_option maxRecDepth 100000
set_option autoImplicit false
set_option maxHeartbeats 4000000
/-! The value layer: isinstance, index, count, a sign. -/
namespace VL
open PySem PySem.Spec PyProof.Rows L2

inductive Ty5 where
  | int | bool | str | list | tuple
def Ty5.name : Ty5 → String
  | .int => "int"
  | .bool => "bool"
  | .str => "str"
  | .list => "list"
  | .tuple => "tuple"
def isiT : Ty5 → PyData → Option PyData
  | .int, .none => some (.bool false)
  | .int, .bool _ => some (.bool true)
  | .int, .int _ => some (.bool true)
  | .int, .str _ => some (.bool false)
  | .int, .list _ => some (.bool false)
  | .int, .tuple _ => some (.bool false)
  | .bool, .none => some (.bool false)
  | .bool, .bool _ => some (.bool true)
  | .bool, .int _ => some (.bool false)
  | .bool, .str _ => some (.bool false)
  | .bool, .list _ => some (.bool false)
  | .bool, .tuple _ => some (.bool false)
  | .str, .none => some (.bool false)
  | .str, .bool _ => some (.bool false)
  | .str, .int _ => some (.bool false)
  | .str, .str _ => some (.bool true)
  | .str, .list _ => some (.bool false)
  | .str, .tuple _ => some (.bool false)
  | .list, .none => some (.bool false)
  | .list, .bool _ => some (.bool false)
  | .list, .int _ => some (.bool false)
  | .list, .str _ => some (.bool false)
  | .list, .list _ => some (.bool true)
  | .list, .tuple _ => some (.bool false)
  | .tuple, .none => some (.bool false)
  | .tuple, .bool _ => some (.bool false)
  | .tuple, .int _ => some (.bool false)
  | .tuple, .str _ => some (.bool false)
  | .tuple, .list _ => some (.bool false)
  | .tuple, .tuple _ => some (.bool true)
  | _, .dict _ => none
theorem kit_tab : ∀ t : Ty5, kitB "NoneType" t.name = some false ∧ kitB "bool" t.name = some (match t with | .int => true | .bool => true | _ => false) ∧ kitB "int" t.name = some (match t with | .int => true | _ => false) ∧
    kitB "str" t.name = some (match t with | .str => true | _ => false) ∧ kitB "list" t.name = some (match t with | .list => true | _ => false) ∧ kitB "tuple" t.name = some (match t with | .tuple => true | _ => false)
  | .int => by decide +kernel
  | .bool => by decide +kernel
  | .str => by decide +kernel
  | .list => by decide +kernel
  | .tuple => by decide +kernel
theorem isi_ok {K : PySem.W.Frag} {mg : Str → Option Value} {H : Hp} {t : Ty5} {x : V} {d c : PyData} (h : Rp K mg H x d) (e : isiT t d = some c) :
    ∃ ty b, c = .bool b ∧ TyX K H x ty ∧ PySem.W.kitOne K ty (.type t.name) = some b := by
  obtain ⟨k1, k2, k3, k4, k5, k6⟩ := kit_tab t
  cases h with
  | non => cases t <;> cases e <;> exact ⟨_, _, rfl, .base .non, kit_ty k1⟩
  | bl b => cases t <;> cases e <;> exact ⟨_, _, rfl, .base (.bl _), kit_ty k2⟩
  | int i => cases t <;> cases e <;> exact ⟨_, _, rfl, .base (.int _), kit_ty k3⟩
  | str z => cases t <;> cases e <;> exact ⟨_, _, rfl, .base (.str _), kit_ty k4⟩
  | lst hp _ => cases t <;> cases e <;> exact ⟨_, _, rfl, .base (.lst hp), kit_ty k5⟩
  | tup hp _ => cases t <;> cases e <;> exact ⟨_, _, rfl, .base (.tup hp), kit_ty k6⟩
  | ins _ _ _ _ => cases t <;> cases e
  | scr _ => cases t <;> cases e
section
variable {X : Cx} {W : WX} {a b c d o x : Expr} {fa fb fc fd : Ev → Res PyData} {pos p p2 apos cpos : Pos}
theorem ce_isi {n : Str} (t : Ty5) (hg : Gl X "isinstance") (hm : X.mg "isinstance" = none) (ha : CB X W a fa) (hT : PE X (.Name n p2) (tC (.ty t.name))) (he : starEach [a, .Name n p2] X.env = (false, eval a X.env) :: starEach [.Name n p2] X.env := by rfl)
    (he2 : starEach [.Name n p2] X.env = (false, eval (.Name n p2) X.env) :: starEach [] X.env := by rfl) (hpl : (backTo pos (starEach [.Name n p2] X.env)).any (·.1) = false := by rfl) :
    CE X W (.Call (.Name "isinstance" p) [a, .Name n p2] [] pos) (b1 fa fun d => ofO (isiT t d)) :=
  (pe_callB call_isi hg hm (by decide +kernel) (pa_cons ha (pa_cons hT pa_nil he2) he) (by decide) (by decide) he hpl).imp fun σ H Q q => by
  obtain ⟨e, lk, F, R, s, q⟩ := q
  refine ⟨e, lk, F, R, s, resOk.bind q fun d v H1 F1 f1 g1 s1 p1 q1 => ?_⟩
  cases hi : isiT t d with
  | none => rw [hi] at q1; exact q1.elim
  | some c =>
    rw [hi] at q1
    obtain ⟨ty, b, rfl, h1, h2⟩ := isi_ok p1 hi
    exact ⟨v, _, ty, _, b, rfl, .ty _, h1, h2, q1.fin s1 (.bl b)⟩
def negD : PyData → Option PyData
  | .int i => some (.int (-i))
  | _ => none
theorem ce_neg (ha : CB X W a fa) : CE X W (.UnaryOp .USub a pos) (b1 fa fun d => ofO (negD d)) := (pe_un un_neg ha).imp fun σ H Q q => by
  obtain ⟨e, lk, F, R, s, q⟩ := q
  refine ⟨e, lk, F, R, s, resOk.bind q fun d v H1 F1 f1 g1 s1 p1 q1 => ?_⟩
  cases p1 with
  | int i => exact ⟨i, rfl, q1.fin s1 (.int _)⟩
  | _ => exact q1.elim
/-! ### list.index, list.count, at any data -/
def rCountD (K : PySem.W.Frag) : V → List V → Hp → VK → Prop := fun x xs H Q => ∃ (a : Addr) (y : V) (d : PyData) (ds : List PyData), x = V.ref a ∧ xs = [y] ∧ Dp K H (V.ref a) (.list ds) ∧ Dp K H y d ∧
  SeqAt.shaped (.list ds) = true ∧ SeqAt.shaped d = true ∧ Q (.int (ds.countP (fun z => PyData.eqv z d) : Nat)) H
theorem mt_countD (hu : X.A.units + 65 < cLine) : MtR X "list.count" (rCountD X.K) := by
  intro pins s σ H x xs v us Q I rx rxs h
  obtain ⟨a, y, d, ds, rfl, rfl, hl, hy, sl, sd, q⟩ := h
  cases rx
  cases rxs with
  | cons ry rt =>
    rename_i uy ut
    cases rt
    obtain ⟨bs, r1⟩ := Dp.reads I d y uy hy ry
    have hxs : PyData.canLayAll0 ds = true := SeqAt.canLay_of_shaped sl
    have hroom : X.A.units + 1 + min (PyData.depthAll ds) d.depth < cLine := room_in_shaped sd hu
    cases hl with
    | lst hs ha =>
      obtain ⟨its, rv, ⟨⟨cls, dd, data, sls⟩, n, ho, hc, hdn, hdt⟩, hlen⟩ := I.list hs
      simp only at hc hdt
      subst hc hdt
      obtain ⟨as, h4⟩ := Dp.readsAll I ds _ its ha rv
      have hmap : its.map (SeqAt.readOf s.heap) = ds := SeqAt.readsAll_map ds its as hxs h4
      refine call_meets PySem.F.slot_list_count ⟨_, ho, rfl⟩ PySem.F.entry_list_count (PySem.F.args_list_count_2 _ _)
        (SeqAt.list_countAt a its.toArray n dd sls uy (fun u => PyData.eqv (SeqAt.readOf s.heap u) d)) ⟨ho, SeqAt.items_eqAt (vs := its.toArray) (show ReadsAll s.heap its.toArray.toList ds as from h4) r1 hxs (SeqAt.canLay_of_shaped sd) hroom, ?_⟩
      refine ⟨.int (ds.countP (fun z => PyData.eqv z d) : Nat), H, I.tok _, ⟨s.toks, ?_⟩, q⟩
      show Value.int ((its.toArray.toList.countP (fun u => PyData.eqv (SeqAt.readOf s.heap u) d) : Nat) : Int) s.toks = Value.int ((ds.countP (fun z => PyData.eqv z d) : Nat) : Int) s.toks
      rw [← hmap, List.countP_map]
      rfl
/-- what a method of a list asks of a list and a thing -/
def bL (fa fb : Ev → Res PyData) (h : List PyData → PyData → Option PyData) : Ev → Res PyData := fun e => (fa e).bind fun a => match a with
  | .list ds => (fb e).bind fun b => ofO (if SeqAt.shaped (.list ds) && SeqAt.shaped b then h ds b else none)
  | _ => .no
def findD : List PyData → PyData → Option Nat
  | [], _ => none
  | z :: zs, d => if PyData.eqv z d then some 0 else (findD zs d).map (· + 1)
theorem findD_spec : ∀ {ds : List PyData} {d : PyData} {j : Nat}, findD ds d = some j → (∃ z, ds[j]? = some z ∧ PyData.eqv z d = true) ∧ ∀ (m : Nat) (z' : PyData), m < j → ds[m]? = some z' → PyData.eqv z' d = false
  | [], d, j, h => by cases h
  | z :: zs, d, j, h => by
    unfold findD at h
    by_cases hz : PyData.eqv z d = true
    · rw [if_pos hz] at h
      cases h
      exact ⟨⟨z, rfl, hz⟩, fun m z' hm => by omega⟩
    · rw [if_neg hz] at h
      cases hf : findD zs d with
      | none => rw [hf] at h; cases h
      | some k =>
        rw [hf] at h
        cases h
        obtain ⟨⟨y, h1, h2⟩, h3⟩ := findD_spec hf
        refine ⟨⟨y, by simpa using h1, h2⟩, fun m z' hm hg => ?_⟩
        cases m with
        | zero =>
          simp at hg
          subst hg
          exact Bool.eq_false_iff.mpr hz
        | succ m => exact h3 m z' (by dsimp only at hm; omega) (by simpa using hg)
def indexD (ds : List PyData) (d : PyData) : Option PyData := (findD ds d).map fun j => .int (j : Nat)
def countD (ds : List PyData) (d : PyData) : Option PyData := some (.int (ds.countP (fun z => PyData.eqv z d) : Nat))
theorem x_bL {r : V → List V → Hp → VK → Prop} {h : List PyData → PyData → Option PyData}
    (k : ∀ {H l u b ds c Q}, Dp X.K H (V.ref l) (.list ds) → Dp X.K H u b → SeqAt.shaped (.list ds) = true → SeqAt.shaped b = true → h ds b = some c → (∃ z, (∀ F, Rp X.K X.mg F z c) ∧ (Q z H → r (.ref l) [u] H Q))) :
    ∀ σ H Q, tX X.K X.mg W (pE X.K X.mg) (bL fa fb h) σ H Q → tBM X.K "list" r (tX X.K X.mg W (pB X.K X.mg) fa) (tCons (tX X.K X.mg W (pB X.K X.mg) fb) tNil) σ H Q := by
  intro σ H Q q
  obtain ⟨e, lk, F, R, s, q⟩ := q
  refine ⟨e, lk, F, R, s, resOk.bind q fun a v H1 F1 f1 g1 s1 p1 q1 => ?_⟩
  cases p1 with
  | @lst l vs ds hp hr =>
    dsimp only at q1
    refine ⟨.inl ⟨rfl, vs, SqL.of hp⟩, e, lk, F1, R, s1, resOk.bind q1 fun b u H2 F2 f2 g2 s2 p2 q2 => ?_⟩
    try dsimp only at q2
    by_cases hh : (SeqAt.shaped (.list ds) && SeqAt.shaped b) = true
    · rw [if_pos hh] at q2
      rw [Bool.and_eq_true] at hh
      cases hf : h ds b with
      | none => rw [hf] at q2; exact q2.elim
      | some c =>
        rw [hf] at q2
        obtain ⟨z, hz, hk⟩ := k (H := H2) (Q := Q) ((Rp.lst (g2 _ _ hp) (hr.mono g2)).dp (SeqAt.canLay_of_shaped hh.1)) (p2.dp (SeqAt.canLay_of_shaped hh.2)) hh.1 hh.2 hf
        exact hk (q2.fin s2 (hz _))
    · rw [if_neg hh] at q2
      exact q2.elim
  | _ => exact q1.elim
theorem ce_index (hu : X.A.units + 65 < cLine) (ho : CB X W o fa) (hb : CB X W b fb) (hbase : attributeBase o "index" X.env (eval o X.env) = eval o X.env := by rfl)
    (hfew : ((backTo cpos (starEach (b :: []) X.env)).all (fun x => !x.1) && (backToKw cpos (keywordEach [] X.env)).all (fun x => x.1.isSome)
      && decide ((b :: []).length + ([] : List Keyword).length + (if ([] : List Keyword).isEmpty then 0 else 1) < 30)) = true := by rfl)
    (hline : (apos.endLine == cpos.line) = true := by rfl) (hs : starEach (b :: []) X.env = (false, eval b X.env) :: starEach [] X.env := by rfl) (hplain : (backTo cpos (starEach [] X.env)).any (·.1) = false := by rfl) :
    CE X W (.Call (.Attribute o "index" apos) [b] [] cpos) (bL fa fb indexD) :=
  (pe_bm PySem.F.plainAttrs_list PySem.F.slot_list_index PySem.F.type_list_index (mt_indexD hu) ho (pa_cons hb pa_nil hs) hbase hfew hline hs hplain).imp (x_bL fun {H l u b ds c Q} d1 d2 s1 s2 hc => by
    unfold indexD at hc
    cases hf : findD ds b with
    | none => rw [hf] at hc; cases hc
    | some j =>
      rw [hf] at hc
      cases hc
      obtain ⟨⟨z, h1, h2⟩, h3⟩ := findD_spec hf
      exact ⟨_, fun _ => .int _, fun q => ⟨l, u, b, ds, j, z, rfl, rfl, d1, d2, s1, s2, h1, h2, h3, q⟩⟩)
theorem ce_count (hu : X.A.units + 65 < cLine) (ho : CB X W o fa) (hb : CB X W b fb) (hbase : attributeBase o "count" X.env (eval o X.env) = eval o X.env := by rfl)
    (hfew : ((backTo cpos (starEach (b :: []) X.env)).all (fun x => !x.1) && (backToKw cpos (keywordEach [] X.env)).all (fun x => x.1.isSome)
      && decide ((b :: []).length + ([] : List Keyword).length + (if ([] : List Keyword).isEmpty then 0 else 1) < 30)) = true := by rfl)
    (hline : (apos.endLine == cpos.line) = true := by rfl) (hs : starEach (b :: []) X.env = (false, eval b X.env) :: starEach [] X.env := by rfl) (hplain : (backTo cpos (starEach [] X.env)).any (·.1) = false := by rfl) :
    CE X W (.Call (.Attribute o "count" apos) [b] [] cpos) (bL fa fb countD) :=
  (pe_bm PySem.F.plainAttrs_list PySem.F.slot_list_count PySem.F.type_list_count (mt_countD hu) ho (pa_cons hb pa_nil hs) hbase hfew hline hs hplain).imp (x_bL fun {H l u b ds c Q} d1 d2 s1 s2 hc => by
    cases hc
    exact ⟨_, fun _ => .int _, fun q => ⟨l, u, b, ds, rfl, rfl, d1, d2, s1, s2, q⟩⟩)
end
end VL
end
section
set_option Elab.async false
set_option linter.all false
set_option maxRecDepth 100000
set_option autoImplicit false
set_option maxHeartbeats 4000000
/-! The value layer: a dropped value, raises of own classes, a loop over an own list, the law's promise. -/
namespace VL
open PySem PySem.Spec PyProof.Rows L2

section
variable {X : Cx} {W : WX} {ex : Expr} {fe : Ev → Res PyData} {f : SS} {pos : Pos}
def sDrop (fe : Ev → Res PyData) : SS := fun e => thn (fe e) e fun _ => .nx e
theorem cs_drop (he : CE X W ex fe) (hs : swapsWith ex none pos.line X.env = pure false := by rfl) : CS X W (.Expr ex pos) (sDrop fe) := (ps_expr he hs).imp fun D σ H q => by
  obtain ⟨e, lk, F, R, s, q⟩ := q
  exact ⟨e, lk, F, R, s, fin.bind q fun d v H1 F1 f1 g1 s1 p1 q1 => q1.nx s1⟩
/-- an exception class of the program's own, over ValueError -/
structure XC (K : PySem.W.Frag) (mg : Str → Option Value) (c : Str) (C : Addr) : Prop where
  mg : mg c = some (.ref C)
  xi : PySem.W.excIn K C [.type "ValueError", .type "Exception", .type "BaseException", .type "object"] "ValueError.__new__" = true
  kp : PySem.W.keepIn K (.ref C) = true
  sb : PySem.W.subIn K (.ref C) (.type "BaseException") = some true
  ty : PySem.W.typeIn K (.ref C) = some (.type "type")
theorem cs_raiseC {c m : Str} {j : Nat} {p p2 p3 : Pos} (hc : X.calm = true) (tk : Takes X W) (h : ∃ C, XC X.K X.mg c C) (hg : Gl X c) (hdb : (c == ("__debug__" : Str)) = false := by decide) :
    CS X W (.Raise (some (.Call (.Name c p) [.Constant (.str m) j p2] [] p3)) none pos) (sRaise c) := by
  obtain ⟨C, h⟩ := h
  exact cs_raise hc tk h.mg (pmk_own PySem.F.excBase_ValueError h.xi h.mg h.kp (raises_own h.sb h.ty) hg hdb)
/-! ### for x in a list of the frame's own, which stays as it is -/
def noHd (e : Ev) : Bool := e.all fun s => match s with
  | .hd _ => false
  | .sf _ => false
  | _ => true
theorem noHd_at {e : Ev} (h : noHd e = true) (j : Nat) (d : List PyData) : e[j]? ≠ some (Slot.hd d) := fun q => by
  have := List.all_eq_true.mp h _ (List.mem_of_getElem? q)
  cases this
theorem noSf_at {e : Ev} (h : noHd e = true) (j : Nat) (d : PyData) : e[j]? ≠ some (Slot.sf d) := fun q => by
  have := List.all_eq_true.mp h _ (List.mem_of_getElem? q)
  cases this
abbrev Lk := Nat → Option (Addr × List V)
theorem SR.holds {K : PySem.W.Frag} {mg : Str → Option Value} {lk : Lk} {F H : Hp} {R : Ix → Hp} {σ : Sg} {e : Ev} (s : SR K mg lk F R σ H e) {i : Nat} {ds : List PyData} (he : e[i]? = some (.ow ds)) (hlk : noHd e = true) :
    ∃ p vs, SR K mg (fun j => if j = i then some (p, vs) else none) F R σ H (e.set i (.hd ds)) ∧ σ[i]? = some (some (.ref p)) ∧ H p = some (.lst vs) ∧ RpA K mg F vs ds := by
  obtain ⟨p, vs, hx, hr, ha⟩ := s.at_ i _ he
  refine ⟨p, vs, ⟨by rw [List.length_set]; exact s.len, s.fh, s.rh, s.rr, s.rf, s.hid, fun j x q => ?_⟩, hx, s.rh (.sl i) _ _ (by rw [hr, one_same]), ha⟩
  by_cases hj : i = j
  · subst hj
    have hl : i < e.length := (List.getElem?_eq_some_iff.mp he).1
    rw [List.getElem?_set_self hl] at q
    cases q
    exact ⟨p, vs, if_pos rfl, hx, hr, ha⟩
  · rw [List.getElem?_set_ne hj] at q
    have := s.at_ j x q
    cases x with
    | hd d => exact absurd q (noHd_at hlk j d)
    | no => trivial
    | fz d => exact this
    | ow d => exact this
    | rg d => exact this
    | ob d => exact this
    | sf d => exact absurd q (noSf_at hlk j d)
theorem SR.unhold {K : PySem.W.Frag} {mg : Str → Option Value} {lk : Lk} (lk' : Lk) {F H : Hp} {R : Ix → Hp} {σ : Sg} {e : Ev} {i : Nat} {ds : List PyData} (s : SR K mg lk F R σ H e) (he : e[i]? = some (.hd ds)) (hn : noHd (e.set i .no) = true) : SR K mg lk' F R σ H (e.set i (.ow ds)) := by
  obtain ⟨p, vs, _, hx, hr, ha⟩ := s.at_ i _ he
  refine ⟨by rw [List.length_set]; exact s.len, s.fh, s.rh, s.rr, s.rf, s.hid, fun j x q => ?_⟩
  have hl : i < e.length := (List.getElem?_eq_some_iff.mp he).1
  by_cases hj : i = j
  · subst hj
    rw [List.getElem?_set_self hl] at q
    cases q
    exact ⟨p, vs, hx, hr, ha⟩
  · have hn2 : (e.set i .no)[j]? = some x := by
      rw [List.getElem?_set_ne hj] at q ⊢
      exact q
    rw [List.getElem?_set_ne hj] at q
    have := s.at_ j x q
    cases x with
    | hd d => exact absurd hn2 (noHd_at hn j d)
    | no => trivial
    | fz d => exact this
    | ow d => exact this
    | rg d => exact this
    | ob d => exact this
    | sf d => exact absurd hn2 (noSf_at hn j d)
theorem SR.relk {K : PySem.W.Frag} {mg : Str → Option Value} {lk : Lk} (lk' : Lk) {F H : Hp} {R : Ix → Hp} (s : SR K mg lk F R [] H []) : SR K mg lk' F R [] H [] := ⟨rfl, s.fh, s.rh, s.rr, s.rf, s.hid, fun i x q => by simp at q⟩
def forH (i : Nat) (t : Tg) (kl : List Nat) (f : SS) : List PyData → Ev → Out
  | [], e => match e[i]? with
    | some (.hd ds) => if noHd (e.set i .no) then .nx (e.set i (.ow ds)) else .no
    | _ => .no
  | d :: ds, e => match e[i]? with
    | some (.hd _) => (match tgSet t d e with
      | none => .no
      | some e1 => match f e1 with
        | .nx e2 => forH i t kl f ds (killS kl e2)
        | .ct e2 => forH i t kl f ds (killS kl e2)
        | .rt d => .rt d
        | .rl ds => .rl ds
        | _ => .no)
    | _ => .no
/-- over the list at slot i: it is held while the loop walks it -/
def sForO (i : Nat) (t : Tg) (kl : List Nat) (f : SS) : SS := fun e => match e[i]? with
  | some (.ow ds) => if noHd e then forH i t kl f ds (killS kl (e.set i (.hd ds))) else .no
  | _ => .no
theorem fin.forH {K : PySem.W.Frag} {mg : Str → Option Value} {lk lk' : Lk} {i : Nat} {t : Tg} {kl : List Nat} {F : Hp} {R : Ix → Hp} {D : Ends} {d : PyData} {ds : List PyData} {e e1 : Ev} {N : L2.St → Hp → Prop}
    (h : fin K mg W lk F R D (VL.forH i t kl f (d :: ds) e)) (ht : tgSet t d e = some e1)
    (hN : ∀ σ' H' F' R' e2, Same F F' → KeepR R R' → SR K mg lk' F' R' σ' H' e2 → fin K mg W lk F' R' D (VL.forH i t kl f ds e2) → N σ' H') : fin K mg W lk' F R { D with nx := N, ct := N, bk := D.nx } (f e1) := by
  unfold VL.forH at h
  split at h
  · rw [ht] at h
    dsimp only at h
    cases hf : f e1 with
    | nx e2 =>
      rw [hf] at h
      exact fun σ2 H2 F2 R2 f2 k2 s => hN σ2 H2 F2 R2 _ f2 k2 (s.kill kl) (fin.up f2 k2 h)
    | ct e2 =>
      rw [hf] at h
      exact fun σ2 H2 F2 R2 f2 k2 s => hN σ2 H2 F2 R2 _ f2 k2 (s.kill kl) (fin.up f2 k2 h)
    | rt d => rw [hf] at h; exact fun v H2 F2 R2 f2 k2 s p => h v H2 F2 R2 f2 k2 (s.relk lk) p
    | rl ds => rw [hf] at h; exact fun p vs H2 F2 R2 f2 k2 s a b c d r => h p vs H2 F2 R2 f2 k2 (s.relk lk) a b c d r
    | bk e2 => rw [hf] at h; exact h.elim
    | rg d => rw [hf] at h; exact h.elim
    | rs e' d => rw [hf] at h; exact h.elim
    | ex c e' => rw [hf] at h; exact h.elim
    | no => rw [hf] at h; exact h.elim
  · exact h.elim
theorem forH_hd {K : PySem.W.Frag} {mg : Str → Option Value} {lk : Lk} {i : Nat} {t : Tg} {kl : List Nat} {F : Hp} {R : Ix → Hp} {D : Ends} {ds : List PyData} {e : Ev} (h : fin K mg W lk F R D (VL.forH i t kl f ds e)) : ∃ d, e[i]? = some (.hd d) := by
  cases ds with
  | nil =>
    unfold VL.forH at h
    split at h
    · exact ⟨_, by assumption⟩
    · exact h.elim
  | cons d ds =>
    unfold VL.forH at h
    split at h
    · exact ⟨_, by assumption⟩
    · exact h.elim
theorem cs_forO {tg iter : Expr} {body : List Stmt} {i : Nat} {t : Tg} {kl : List Nat} (hp : PassesOwn (model X.prog X.w) X.A X.env X.xe) (hc : X.calm = true) (hi : PE X iter (tVar i)) (hg : PG X tg (gOf X.K t)) (hb : CSs X W body f)
    (hs : ∀ x, foldedSetIterable iter X.env x = pure x := by intro _; rfl) : CS X W (.For tg iter body [] pos) (sForO i t kl f) := (ps_for hp hc (pi_list hi) hg hb hs).imp fun D σ H q => by
  obtain ⟨e, lk, F, R, s, q⟩ := q
  unfold sForO at q
  split at q
  · rename_i ds he
    by_cases hn : noHd e = true
    · rw [if_pos hn] at q
      obtain ⟨p, vs, s1, hx, hpH, hr⟩ := s.holds he hn
      refine ⟨.ref p, hx, p, rfl, ⟨vs, SqL.of hpH⟩, ?_⟩
      refine ⟨fun k m σ H => m = ds.length - k ∧ k ≤ ds.length ∧ ∃ e' F' R', Same F F' ∧ SR X.K X.mg (fun j => if j = i then some (p, vs) else none) F' R' σ H e' ∧ fin X.K X.mg W lk F' R' D (VL.forH i t kl f (ds.drop k) e'), ⟨ds.length, by omega, Nat.zero_le _, _, F, R, Same.refl _, s1.kill kl, q⟩, ?_⟩
      rintro k m σ2 H2 ⟨rfl, hk, e2, F2, R2, f2, s2, q2⟩
      obtain ⟨dh, hdh⟩ := forH_hd q2
      have hp2 : H2 p = some (.lst vs) := by
        obtain ⟨p', vs', hl, _, hr', _⟩ := s2.at_ i _ hdh
        dsimp only at hl
        rw [if_pos rfl] at hl
        cases hl
        exact s2.rh (.sl i) _ _ (by rw [hr', one_same])
      have it : ItOk X.K X.mg F (fun H => H p = some (.lst vs)) (Itl X.K p) ds := it_list (fun _ h => h) hr
      by_cases hlt : k < ds.length
      · have hd : ds.drop k = ds[k] :: ds.drop (k + 1) := List.drop_eq_getElem_cons hlt
        rw [hd] at q2
        refine .inr ⟨it.go k H2 hp2 hlt, fun σ H => ∃ e' F' R', Same F F' ∧ SR X.K X.mg (fun j => if j = i then some (p, vs) else none) F' R' σ H e' ∧ fin X.K X.mg W lk F' R' D (VL.forH i t kl f (ds.drop (k + 1)) e'), fun σ' H' h => ⟨ds.length - (k + 1), by omega, rfl, hlt, h⟩, fun x H3 y => ?_⟩
        obtain ⟨d, hdi, yl⟩ := it.yld k H2 x H3 hp2 hlt y
        have ed : ds[k] = d := by
          rw [List.getElem?_eq_getElem hlt] at hdi
          exact Option.some.inj hdi
        rw [ed] at q2
        obtain ⟨F3, f3, g3, s3, hxr⟩ := (yl.mono f2).keep s2
        cases htg : tgSet t d e2 with
        | none =>
          unfold VL.forH at q2
          rw [hdh, htg] at q2
          exact q2.elim
        | some e3 =>
          refine tg_run s3 hxr htg fun σ' _ s4 => ?_
          exact ⟨e3, _, F3, R2, s4, fin.forH (fin.up f3 (KeepR.refl _) q2) htg fun σ5 H5 F5 R5 e5 f5 k5 s5 q5 => ⟨e5, F5, R5, (f2.trans f3).trans f5, s5, q5⟩⟩
      · have hie : k = ds.length := by omega
        subst hie
        rw [List.drop_length] at q2
        refine .inl ⟨it.stop H2 hp2, ?_⟩
        unfold VL.forH at q2
        rw [hdh] at q2
        dsimp only at q2
        by_cases hn2 : noHd (e2.set i .no) = true
        · rw [if_pos hn2] at q2
          exact q2.nx (s2.unhold lk hdh hn2)
        · rw [if_neg hn2] at q2
          exact q2.elim
    · rw [if_neg hn] at q
      exact q.elim
  · exact q.elim
end
theorem ce_globI {X : Cx} {W : WX} {x : Str} {i : Int} {p : Pos} (hg : Gl X x) (h : ∃ t, X.mg x = some (.int i t)) (hd : (x == ("__debug__" : Str)) = false := by decide) : CE X W (.Name x p) (eC (.int i)) := by
  obtain ⟨t, h⟩ := h
  exact ce_c (v := .int i) (pe_glob hg h ⟨t, rfl⟩ hd) fun _ => .int i
theorem ce_globS {X : Cx} {W : WX} {x z : Str} {p : Pos} (hg : Gl X x) (h : ∃ t, X.mg x = some (.str z t)) (hd : (x == ("__debug__" : Str)) = false := by decide) : CE X W (.Name x p) (eC (.str z)) := by
  obtain ⟨t, h⟩ := h
  exact ce_c (v := .str z) (pe_glob hg h ⟨t, rfl⟩ hd) fun _ => .str z
/-! ### a def, said for the generator -/
theorem fn_ok2 {P : Program} {w : World} {K : PySem.W.Frag} {mg : Str → Option Value} {base : Heap} {x qual : Str} {st : Stmt} {f : Addr} {fd : FuncData} {N ps : List Str} {k np n : Nat} {g : List PyData → RF} (b : SS) (Fn : Fun K x qual st f fd) (S : FnScope N ps (defScope st)) (h1 : ps.length = np) (h2 : N.length = n) (h3 : np ≤ n) (hg : g = runB b n)
    (hbody : ∀ (cdv : Value) (A : Around) (outer : List Env) (s : Shared) (H : Hp) (E : XK), Room k (A.deeper (envOfC qual (defScope st) s.heap.objs.size f cdv)) →
      CSs (cxOf (L2.CX P w) P w K mg base N qual (defScope st) f cdv A outer s H E) (fun cls d _ H => E cls d H) (defBody st) b) :
    FnOk P w K mg base (L2.CX P w) (k + 1) f fd ps (spF K mg np g) := by
  subst h1 h2 hg
  exact fn_ok b Fn S h3 hbody
/-! ### the law's own promise -/
def spLaw (K : PySem.W.Frag) : Sp := fun vs H Q _ => ∃ (a : Addr) (ns : List Int), vs = [.ref a] ∧ SqL K H a (ns.map V.int) ∧ ns.length ≤ 63 ∧ ∀ H', Q (.bl true) H'
theorem law_ok {P : Program} {w : World} {K : PySem.W.Frag} {mg : Str → Option Value} {base : Heap} {k : Nat} {f : Addr} {fd : FuncData} {ps : List Str} {g : List PyData → RF} (F : FnOk P w K mg base (L2.CX P w) k f fd ps (spF K mg 1 g))
    (h : ∀ ns : List Int, ns.length ≤ 63 → g [scrD ns] = .val (.bool true)) : FnOk P w K mg base (L2.CX P w) k f fd ps (spLaw K) := by
  refine F.imp fun vs H Q E q => ?_
  obtain ⟨a, ns, rfl, hS, hl, q⟩ := q
  refine ⟨H, [scrD ns], Same.refl _, .cons (.scr hS) .nil, rfl, ?_⟩
  rw [h ns hl]
  intro v H' G _ _ _ _ r
  cases r
  exact q H'
theorem law_cx {P : Program} {w : World} {H : Hp} {s : Shared} {e : Value} {s' : Shared} (h : L2.CX P w [] H s (fun _ _ _ => False) e s') : False := by
  obtain ⟨_, _, _, _, _, _, _, _, _, _, _, _, z⟩ := h
  exact z.elim
end VL
end
section
set_option Elab.async false
set_option linter.all false
set_option maxRecDepth 100000
set_option autoImplicit false
set_option maxHeartbeats 4000000
/-! The value layer: sets of pairs of numbers, sorted and counted. -/
namespace VL
open PySem PySem.Spec PyProof.Rows L2

/-- the pairs, each once -/
def nubP : List (Int × Int) → List (Int × Int)
  | [] => []
  | p :: ps => if p ∈ nubP ps then nubP ps else p :: nubP ps
theorem mem_nubP (q : Int × Int) : ∀ ps : List (Int × Int), q ∈ nubP ps ↔ q ∈ ps
  | [] => Iff.rfl
  | p :: ps => by
    rw [nubP]
    by_cases h : p ∈ nubP ps
    · rw [if_pos h, mem_nubP q ps, List.mem_cons]
      constructor
      · exact .inr
      · rintro (rfl | h2)
        · exact (mem_nubP _ ps).mp h
        · exact h2
    · rw [if_neg h, List.mem_cons, List.mem_cons, mem_nubP q ps]
theorem nubP_nodup : ∀ ps : List (Int × Int), (nubP ps).Nodup
  | [] => List.nodup_nil
  | p :: ps => by
    rw [nubP]
    by_cases h : p ∈ nubP ps
    · rw [if_pos h]; exact nubP_nodup ps
    · rw [if_neg h]; exact List.nodup_cons.mpr ⟨h, nubP_nodup ps⟩
theorem nubP_self : ∀ ps : List (Int × Int), ps.Nodup → nubP ps = ps
  | [], _ => rfl
  | p :: ps, h => by
    have h := List.nodup_cons.mp h
    rw [nubP, nubP_self ps h.2, if_neg h.1]
theorem nubP_len : ∀ ps : List (Int × Int), (nubP ps).length ≤ ps.length
  | [] => Nat.le_refl _
  | p :: ps => by
    have := nubP_len ps
    rw [nubP]
    by_cases h : p ∈ nubP ps
    · rw [if_pos h, List.length_cons]; omega
    · rw [if_neg h, List.length_cons, List.length_cons]; omega
theorem nubP_iff (ps : List (Int × Int)) : (nubP ps).length = ps.length ↔ ps.Nodup := by
  constructor
  · intro h
    induction ps with
    | nil => exact List.nodup_nil
    | cons p ps ih =>
      have := nubP_len ps
      rw [nubP] at h
      by_cases g : p ∈ nubP ps
      · rw [if_pos g, List.length_cons] at h; omega
      · rw [if_neg g, List.length_cons, List.length_cons] at h
        exact List.nodup_cons.mpr ⟨fun z => g ((mem_nubP p ps).mpr z), ih (by omega)⟩
  · intro h; rw [nubP_self ps h]
def sortSetD (d : PyData) : Option (List PyData) := match itemsD d with
  | none => none
  | some ds => if decide (ds.length < 64) then (pairsOf ds).map fun ps => (sortK codeP (nubP ps)).map pD else none
def lenSetD (d : PyData) : Option PyData := match itemsD d with
  | none => none
  | some ds => if decide (ds.length < 64) then (pairsOf ds).map fun ps => .int ((nubP ps).length : Int) else none
section
variable {X : Cx} {W : WX} {a : Expr} {fa : Ev → Res PyData} {pos pos2 p p2 p3 : Pos}
def kP (q : Int × Int) : List Int := [q.1, q.2]
theorem kP_inj {q r : Int × Int} (h : kP q = kP r) : q = r := by
  injection h with h1 h2
  injection h2 with h2 _
  exact Prod.ext h1 h2
/-- the addresses of a list of pairs, each with its key -/
theorem keys_of {K : PySem.W.Frag} {mg : Str → Option Value} {F H : Hp} (f : Same F H) : ∀ {vs : List V} {ps : List (Int × Int)}, RpA K mg F vs (ps.map pD) →
    ∃ ks : List (Addr × List Int), vs = ks.map (fun q => V.ref q.1) ∧ ks.map (·.2) = ps.map kP ∧ (∀ q ∈ ks, SqT K H q.1 (q.2.map V.int)) ∧ ∀ q ∈ ks, ∃ r, q.2 = kP r ∧ r ∈ ps ∧ Rp K mg F (.ref q.1) (pD r)
  | vs, [], h => by cases h; exact ⟨[], rfl, rfl, fun _ h => (by cases h), fun _ h => (by cases h)⟩
  | vs, r :: ps, h => by
    cases h with
    | cons h t =>
      obtain ⟨ks, e1, e2, e3, e4⟩ := keys_of f t
      obtain ⟨b, e, hb⟩ := rp_pair (h.mono f)
      subst e
      refine ⟨(b, kP r) :: ks, by rw [e1]; rfl, by rw [List.map_cons, List.map_cons, e2], fun q hq => ?_, fun q hq => ?_⟩
      · rcases List.mem_cons.mp hq with rfl | hq
        · exact hb
        · exact e3 q hq
      · rcases List.mem_cons.mp hq with rfl | hq
        · exact ⟨r, rfl, List.mem_cons_self, h⟩
        · obtain ⟨s, g1, g2, g3⟩ := e4 q hq
          exact ⟨s, g1, List.mem_cons_of_mem _ g2, g3⟩
theorem back_keys {K : PySem.W.Frag} {mg : Str → Option Value} {F : Hp} {ps : List (Int × Int)} : ∀ {L : List (Addr × List Int)}, (∀ q ∈ L, ∃ r, q.2 = kP r ∧ r ∈ ps ∧ Rp K mg F (.ref q.1) (pD r)) →
    ∃ rs : List (Int × Int), L.map (·.2) = rs.map kP ∧ (∀ r ∈ rs, r ∈ ps) ∧ RpA K mg F (L.map fun q => V.ref q.1) (rs.map pD)
  | [], _ => ⟨[], rfl, fun _ h => (by cases h), .nil⟩
  | q :: L, h => by
    obtain ⟨rs, e1, e2, e3⟩ := back_keys fun x hx => h x (List.mem_cons_of_mem _ hx)
    obtain ⟨r, g1, g2, g3⟩ := h q List.mem_cons_self
    refine ⟨r :: rs, by rw [List.map_cons, List.map_cons, e1, g1], fun x hx => ?_, .cons g3 e3⟩
    rcases List.mem_cons.mp hx with rfl | hx
    · exact g2
    · exact e2 x hx
theorem nodup_kP {rs : List (Int × Int)} (h : (rs.map kP).Nodup) : rs.Nodup := by
  rw [List.Nodup, List.pairwise_map] at h
  exact h.imp fun h e => h (congrArg kP e)
theorem perm_nub {rs ps : List (Int × Int)} (h : rs.Nodup) (h1 : ∀ r ∈ rs, r ∈ ps) (h2 : ∀ r ∈ ps, r ∈ rs) : rs.Perm (nubP ps) :=
  (List.perm_ext_iff_of_nodup h (nubP_nodup ps)).mpr fun q => ⟨fun h => (mem_nubP q ps).mpr (h1 q h), fun h => h2 q ((mem_nubP q ps).mp h)⟩
theorem cr_lenT (hc : X.calm = true) : CallR X (.builtin "len") (fun vs H Q => ∃ (b : Addr) (L : List (Addr × List Int)), vs = [V.ref b] ∧ H b = some (SetTO X.prog X.w b L) ∧ (∀ q ∈ L, SqT X.K H q.1 (q.2.map V.int)) ∧ ((L.map (·.2)).Nodup → Q (.int (L.length : Int)) H)) := by
  intro pins s σ H vs us Q I r h
  obtain ⟨b, L, rfl, ha, hk, q⟩ := h
  have R0 : SetT0 X.prog X.w s.heap b L := (I.hok b _ ha).1
  obtain ⟨es, ep, t, R⟩ := R0.full fun p hp => I.isT (hk p hp)
  rw [Vals.ref1 r]
  obtain ⟨o, ho, hex, hd⟩ := R.ob
  have hf := R.few
  refine call_len_set ho hex hd R.fits (by rw [R.size]; omega) ⟨.int (L.length : Int), H, I.tok _, ⟨_, by rw [R.size]⟩, q R.nd⟩
def tSetOf (X : Cx) (W : WX) (fa : Ev → Res PyData) : TE := tCB (rSetOfT X.K X.prog X.w) (tX X.K X.mg W (pA (pU X.K X.mg)) (aCons fa aNil))
theorem pe_setOf (hc : X.calm = true) (hu : X.A.units + 64 < cLine) (hg : Gl X "set") (hm : X.mg "set" = none) (ha : CU X W a fa) (he : starEach [a] X.env = (false, eval a X.env) :: starEach [] X.env := by rfl) (hpl : (backTo pos (starEach [] X.env)).any (·.1) = false := by rfl) :
    PE X (.Call (.Name "set" p) [a] [] pos) (tSetOf X W fa) :=
  pe_callTy (cr_setOfT hc hu) hg hm (by decide +kernel) (ca_u ha he) (by decide) (by decide) he hpl
theorem x_oneG {β : Type} {post : Post V β} {r : List V → Hp → VK → Prop} {fr : Ev → Res PyData} {hd : PyData → Res β}
    (k : ∀ {lk F R σ H e v d Q}, SR X.K X.mg lk F R σ H e → Us X.K X.mg F H v d → resOk X.K X.mg W lk F R σ H e post Q (hd d) → r [v] H Q) :
    ∀ σ H Q, tX X.K X.mg W post (b1 fr hd) σ H Q → tCB r (tX X.K X.mg W (pA (pU X.K X.mg)) (aCons fr aNil)) σ H Q := by
  intro σ H Q q
  obtain ⟨e, lk, F, R, s, q⟩ := q
  refine ⟨e, lk, F, R, s, ?_⟩
  have q' : resOk X.K X.mg W lk F R σ H e post Q ((aCons fr aNil e).bind fun ds => match ds with | [d] => hd d | _ => .no) := by
    unfold b1 at q
    unfold aCons aNil
    cases hf : fr e with
    | ok d => rw [hf] at q; exact q
    | ex c => rw [hf] at q; exact q
    | no => rw [hf] at q; exact q
  refine resOk.bind q' fun ds vs H1 F1 f1 g1 s1 p1 q1 => ?_
  cases p1 with
  | nil => exact q1.elim
  | cons h t =>
    cases t with
    | cons _ _ => exact q1.elim
    | nil => exact k s1 h q1
/-- a set of pairs is made: what is known of it -/
theorem set_made {lk : Nat → Option (Addr × List V)} {F H : Hp} {R : Ix → Hp} {σ : Sg} {e : Ev} {v : V} {d : PyData} {ds : List PyData} {ps : List (Int × Int)} (s : SR X.K X.mg lk F R σ H e) (u : Us X.K X.mg F H v d) (hi : itemsD d = some ds) (h64 : ds.length < 64) (hp : pairsOf ds = some ps) {Q' : VK}
    (k : ∀ b (L : List (Addr × List Int)) (rs : List (Int × Int)), H b = none → L.map (·.2) = rs.map kP → (∀ r ∈ rs, r ∈ ps) → (∀ r ∈ ps, r ∈ rs) → (∀ q ∈ L, SqT X.K (upd H b (SetTO X.prog X.w b L)) q.1 (q.2.map V.int)) → (∀ q ∈ L, ∃ r, q.2 = kP r ∧ r ∈ ps ∧ Rp X.K X.mg F (.ref q.1) (pD r)) → Q' (.ref b) (upd H b (SetTO X.prog X.w b L))) : rSetOfT X.K X.prog X.w [v] H Q' := by
  obtain ⟨l, vs, rfl, hl, hr⟩ := us_items s.fh u hi
  obtain ⟨e1, hok⟩ := pairsOf_eq hp
  subst e1
  obtain ⟨ks, e1, e2, e3, e4⟩ := keys_of s.fh hr
  subst e1
  have hlen : ks.length = ps.length := by have := congrArg List.length e2; rwa [List.length_map, List.length_map] at this
  rw [List.length_map] at h64
  refine ⟨l, ks, rfl, hl, e3, by omega, fun b L hb h1 h2 => ?_⟩
  obtain ⟨rs, g1, g2, g3⟩ := back_keys (ps := ps) fun q hq => e4 q (h1 q hq)
  refine k b L rs hb g1 g2 (fun r hr => ?_) (fun q hq => by
    obtain ⟨r, e, _, hr⟩ := e4 q (h1 q hq)
    obtain ⟨t, et, ht⟩ := rp_pair (hr.mono (s.fh.trans (same_upd (o := SetTO X.prog X.w b L) hb)))
    cases et
    rw [e]
    exact ht) fun q hq => e4 q (h1 q hq)
  have : kP r ∈ ks.map (·.2) := by rw [e2]; exact List.mem_map_of_mem hr
  obtain ⟨q, hq, e⟩ := List.mem_map.mp this
  have h3 := h2 q hq
  rw [e, g1] at h3
  obtain ⟨r2, hr2, e5⟩ := List.mem_map.mp h3
  rw [← kP_inj e5]
  exact hr2
theorem ce_lenSet (hc : X.calm = true) (hu : X.A.units + 64 < cLine) (hg : Gl X "len") (hm : X.mg "len" = none) (hg2 : Gl X "set") (hm2 : X.mg "set" = none) (ha : CU X W a fa) (he : starEach [a] X.env = (false, eval a X.env) :: starEach [] X.env := by rfl) (hpl2 : (backTo pos2 (starEach [] X.env)).any (·.1) = false := by rfl)
    (he2 : starEach [.Call (.Name "set" p2) [a] [] pos2] X.env = (false, eval (.Call (.Name "set" p2) [a] [] pos2) X.env) :: starEach [] X.env := by rfl) (hpl : (backTo pos (starEach [] X.env)).any (·.1) = false := by rfl) :
    CE X W (.Call (.Name "len" p) [.Call (.Name "set" p2) [a] [] pos2] [] pos) (b1 fa fun d => ofO (lenSetD d)) :=
  (pe_callB (cr_lenT hc) hg hm (by decide +kernel) (pa_cons (pe_setOf hc hu hg2 hm2 ha he hpl2) pa_nil he2) (by decide) (by decide) he2 hpl).imp (x_oneG (r := fun vs H Q => rSetOfT X.K X.prog X.w vs H fun x H1 => ∃ (b : Addr) (L : List (Addr × List Int)), [x] = [V.ref b] ∧ H1 b = some (SetTO X.prog X.w b L) ∧ (∀ q ∈ L, SqT X.K H1 q.1 (q.2.map V.int)) ∧ ((L.map (·.2)).Nodup → Q (.int (L.length : Int)) H1)) fun {lk F R σ H e v d Q} s u q => by
    unfold lenSetD at q
    cases hi : itemsD d with
    | none => rw [hi] at q; exact q.elim
    | some es =>
      rw [hi] at q
      dsimp only at q
      by_cases h64 : decide (es.length < 64) = true
      · rw [if_pos h64] at q
        cases hp : pairsOf es with
        | none => rw [hp] at q; exact q.elim
        | some ps =>
          rw [hp] at q
          have q : resOk X.K X.mg W lk F R σ H e (pE X.K X.mg) Q (.ok (.int ((nubP ps).length : Int))) := q
          refine set_made s u hi (of_decide_eq_true h64) hp fun b L rs hb g1 g2 g3 g4 g5 => ?_
          refine ⟨b, L, rfl, upd_same, g4, fun nd => ?_⟩
          have hn : rs.Nodup := nodup_kP (by rw [← g1]; exact nd)
          have e1 := (perm_nub hn g2 g3).length_eq
          have e2 : L.length = rs.length := by have := congrArg List.length g1; rwa [List.length_map, List.length_map] at this
          rw [e2, e1]
          exact q _ _ F (Same.refl _) (same_upd hb) (s.heap (same_upd hb)) (.int _)
      · rw [if_neg h64] at q
        exact q.elim)
theorem cf_sortSet (hc : X.calm = true) (hu : X.A.units + 64 < cLine) (hg : Gl X "sorted") (hm : X.mg "sorted" = none) (hg2 : Gl X "set") (hm2 : X.mg "set" = none) (ha : CU X W a fa) (he : starEach [a] X.env = (false, eval a X.env) :: starEach [] X.env := by rfl) (hpl2 : (backTo pos2 (starEach [] X.env)).any (·.1) = false := by rfl)
    (he2 : starEach [.Call (.Name "set" p2) [a] [] pos2] X.env = (false, eval (.Call (.Name "set" p2) [a] [] pos2) X.env) :: starEach [] X.env := by rfl) (hpl : (backTo pos (starEach [] X.env)).any (·.1) = false := by rfl) :
    CF X W (.Call (.Name "sorted" p) [.Call (.Name "set" p2) [a] [] pos2] [] pos) (b1 fa fun d => ofO (sortSetD d)) :=
  (pe_callB (cr_sortedT hc) hg hm (by decide +kernel) (pa_cons (pe_setOf hc hu hg2 hm2 ha he hpl2) pa_nil he2) (by decide) (by decide) he2 hpl).imp (x_oneG (r := fun vs H Q => rSetOfT X.K X.prog X.w vs H fun x H1 => rSortedT X.K X.prog X.w [x] H1 Q) fun {lk F R σ H e v d Q} s u q => by
    unfold sortSetD at q
    cases hi : itemsD d with
    | none => rw [hi] at q; exact q.elim
    | some es =>
      rw [hi] at q
      dsimp only at q
      by_cases h64 : decide (es.length < 64) = true
      · rw [if_pos h64] at q
        cases hp : pairsOf es with
        | none => rw [hp] at q; exact q.elim
        | some ps =>
          rw [hp] at q
          have q : resOk X.K X.mg W lk F R σ H e (pF X.K X.mg) Q (.ok ((sortK codeP (nubP ps)).map pD)) := q
          have hok := (pairsOf_eq hp).2
          refine set_made s u hi (of_decide_eq_true h64) hp fun b L rs hb g1 g2 g3 g4 g5 => ?_
          refine ⟨b, L, 2, 64, rfl, upd_same, g4, by decide, fun x hx => ?_, fun L' t pm nd h6 pw ht => ?_⟩
          · obtain ⟨r, e1, e2, _⟩ := g5 x hx
            obtain ⟨h1, h2, h3, h4⟩ := hok r e2
            refine ⟨by rw [e1]; rfl, ?_⟩
            rw [e1]
            intro y hy
            simp only [kP, List.mem_cons, List.not_mem_nil, or_false] at hy
            rcases hy with rfl | rfl
            · exact ⟨h1, h2⟩
            · exact ⟨h3, h4⟩
          · obtain ⟨qs, e1, e2, e3⟩ := back_keys (ps := ps) (L := L') fun x hx => g5 x (pm.mem_iff.mp hx)
            have hn : qs.Nodup := nodup_kP (by rw [← e1]; exact nd)
            have hp2 : qs.Perm (nubP ps) := perm_nub hn e2 fun r hr => by
              have h1 : kP r ∈ L.map (·.2) := by rw [g1]; exact List.mem_map_of_mem (g3 r hr)
              have h2 : kP r ∈ L'.map (·.2) := (pm.map (·.2)).mem_iff.mpr h1
              rw [e1] at h2
              obtain ⟨r2, h3, h4⟩ := List.mem_map.mp h2
              rw [← kP_inj h4]
              exact h3
            have pw2 : qs.Pairwise (fun a b => codeP a ≤ codeP b) := by
              have : (L'.map (·.2)).Pairwise (fun a b => TS.code 64 a ≤ TS.code 64 b) := List.pairwise_map.mpr pw
              rw [e1, List.pairwise_map] at this
              refine this.imp fun {a b} h => ?_
              have h : TS.code 64 [a.1, a.2] ≤ TS.code 64 [b.1, b.2] := h
              rw [code_pair, code_pair] at h
              exact h
            have e4 : qs = sortK codeP (nubP ps) := sorted_one (key := codeP) (hp2.trans (sortK_perm codeP _).symm) pw2 (sortK_sorted codeP _) fun x hx y hy h => codeP_inj (hok x (e2 x hx)) (hok y (e2 y hy)) h
            rw [← e4] at q
            have ht0 : H t = none := by
              by_cases hbt : t = b
              · rw [hbt]; exact hb
              · rwa [upd_ne hbt] at ht
            exact q _ _ F (Same.refl _) ((same_upd hb).trans (same_upd ht)) (s.heap ((same_upd hb).trans (same_upd ht))) ⟨t, _, rfl, upd_same, s.newF ht0, s.newR ht0, e3⟩
      · rw [if_neg h64] at q
        exact q.elim)
end
def isN2 (a b : PyData) : Option PyData := match b with | .none => isND a b | _ => none
def notN2 (a b : PyData) : Option PyData := match b with | .none => notND a b | _ => none
theorem fl_isN2 {K : PySem.W.Frag} {mg : Str → Option Value} : OpFl K mg (fun x y H Q => y = .non ∧ Q (.bl (decide (x = .non))) H) isN2 := fl_isN
theorem fl_notN2 {K : PySem.W.Frag} {mg : Str → Option Value} : OpFl K mg (fun x y H Q => y = .non ∧ Q (.bl (!decide (x = .non))) H) notN2 := fl_notN
end VL
end
section
set_option Elab.async false
set_option linter.all false
set_option maxRecDepth 100000
set_option autoImplicit false
set_option maxHeartbeats 4000000
/-! The value layer: a short loop over two own lists that are only looked at; a def that calls itself. -/
namespace VL
open PySem PySem.Spec PyProof.Rows L2
section
variable {K : PySem.W.Frag} {mg : Str → Option Value} {lk : Nat → Option (Addr × List V)} {F H : Hp} {R : Ix → Hp} {σ : Sg} {e : Ev}
/-- a forgotten slot may hold anything -/
theorem SR.any (s : SR K mg lk F R σ H e) {x : Nat} (hx : e[x]? = some .no) (v : Option V) : SR K mg lk F R (σ.set x v) H e where
  len := by rw [List.length_set]; exact s.len
  fh := s.fh
  rh := s.rh
  rr := s.rr
  rf := s.rf
  hid := s.hid
  at_ := fun j z q => by
    by_cases hj : x = j
    · subst hj
      rw [hx] at q
      cases q
      trivial
    · rw [List.getElem?_set_ne hj]
      exact s.at_ j z q
end
section
variable {X : Cx} {W : WX} {tg a b c : Expr} {ret : List Stmt} {ft : Ev → Res Bool} {d : PyData} {pos ipos lpos : Pos} {x i j : Nat}
def sForIf2 (x i j : Nat) (ft : Ev → Res Bool) (d : PyData) : SS := fun e => match e[i]?, e[j]? with
  | some (.ow xs), some (.ow ys) => if decide (i ≠ j ∧ x ≠ i ∧ x ≠ j ∧ x < e.length) then
      let e1 := ((e.set x .no).set i (.fz (.list xs))).set j (.fz (.list ys))
      (match ft (e1.set x (.fz (.list xs))) with
      | .ok true => .rt d
      | .ok false => (match ft (e1.set x (.fz (.list ys))) with
        | .ok true => .rt d
        | .ok false => .nx (e.set x .no)
        | _ => .no)
      | _ => .no) else .no
  | _, _ => .no
/-- one turn: the test is asked with the list under the loop's name; what it leaves is as before -/
theorem turn2 {lk : Nat → Option (Addr × List V)} {F : Hp} {R : Ix → Hp} {e : Ev} {xs ys zs : List PyData} {k : Nat} {σ : Sg} {H : Hp} {p : Addr} (s : SR X.K X.mg lk F R σ H e) (hi : e[i]? = some (.ow xs)) (hj : e[j]? = some (.ow ys)) (hij : i ≠ j) (hxi : x ≠ i) (hxj : x ≠ j) (hx : e[x]? = some .no)
    (hk : (k = i ∧ zs = xs) ∨ (k = j ∧ zs = ys)) (hp : σ[k]? = some (some (.ref p))) {b : Bool} (hb : ft (((e.set i (.fz (.list xs))).set j (.fz (.list ys))).set x (.fz (.list zs))) = .ok b) {Q : Bool → Hp → Prop} (q : ∀ H', Same H H' → Q b H') :
    tX X.K X.mg W pT ft (σ.set x (some (.ref p))) H Q := by
  obtain ⟨F1, R1, f1, k1, s1⟩ := s.freeze hi
  have hj1 : (e.set i (.fz (.list xs)))[j]? = some (.ow ys) := by rw [List.getElem?_set_ne hij]; exact hj
  obtain ⟨F2, R2, f2, k2, s2⟩ := s1.freeze hj1
  have li : i < e.length := (List.getElem?_eq_some_iff.mp hi).1
  have lj : j < e.length := (List.getElem?_eq_some_iff.mp hj).1
  have hz : ((e.set i (.fz (.list xs))).set j (.fz (.list ys)))[k]? = some (.fz (.list zs)) := by
    rcases hk with ⟨rfl, rfl⟩ | ⟨rfl, rfl⟩
    · rw [List.getElem?_set_ne (Ne.symm hij), List.getElem?_set_self li]
    · rw [List.getElem?_set_self (by rw [List.length_set]; exact lj)]
  obtain ⟨v, hv, hr⟩ := s2.at_ k _ hz
  rw [hp] at hv
  cases hv
  have s3 := s2.setF x hr
  refine ⟨_, lk, F2, R2, s3, ?_⟩
  rw [hb]
  intro v H' F' _ g _ pv
  cases pv
  exact q H' g
theorem cs_forIf2 (hp : PassesOwn (model X.prog X.w) X.A X.env X.xe) (hcm : X.calm = true) (hl : PA X [a, b] (tCons (tVar i) (tCons (tVar j) tNil))) (hg : PG X tg (gName x)) (hc : CT X W c ft) (hret : CSs X W ret (sRetE (eC d)))
    (hs : ∀ z, foldedSetIterable (.List [a, b] lpos) X.env z = pure z := by intro _; rfl) :
    CS X W (.For tg (.List [a, b] lpos) [.If c ret [] ipos] [] pos) (sForIf2 x i j ft d) :=
  (ps_for hp hcm (pi_list (pe_lst hl)) hg (pss_one (ps_if hc hret pss_nil)) hs).imp fun D σ H q => by
  obtain ⟨e, lk, F, R, s, q⟩ := q
  unfold sForIf2 at q
  split at q
  · rename_i xs ys hei hej
    by_cases hcnd : decide (i ≠ j ∧ x ≠ i ∧ x ≠ j ∧ x < e.length) = true
    · rw [if_pos hcnd] at q
      obtain ⟨hij, hxi, hxj, hxl⟩ := of_decide_eq_true hcnd
      dsimp only at q
      obtain ⟨p, vs, hpi, _⟩ := s.mutO hei
      obtain ⟨p', vs', hpj, _⟩ := s.mutO hej
      refine ⟨_, hpi, _, hpj, by show 2 ≤ sizeLine; decide, fun l hl => ?_⟩
      refine ⟨l, rfl, ⟨_, SqL.of upd_same⟩, ?_⟩
      have s0 := (s.setN x).heap (same_upd (o := .lst [V.ref p, V.ref p']) hl)
      have h0x : (e.set x .no)[x]? = some .no := List.getElem?_set_self hxl
      have h0i : (e.set x .no)[i]? = some (.ow xs) := by rw [List.getElem?_set_ne hxi]; exact hei
      have h0j : (e.set x .no)[j]? = some (.ow ys) := by rw [List.getElem?_set_ne hxj]; exact hej
      refine for_list (xs := [.ref p, .ref p']) (fun k σ' H' => H' l = some (.lst [.ref p, .ref p']) ∧ σ'[i]? = some (some (.ref p)) ∧ σ'[j]? = some (some (.ref p')) ∧ SR X.K X.mg lk F R σ' H' (e.set x .no) ∧
        fin X.K X.mg W lk F R D (match k with
          | 0 => (match ft ((((e.set x .no).set i (.fz (.list xs))).set j (.fz (.list ys))).set x (.fz (.list xs))) with
            | .ok true => .rt d
            | .ok false => (match ft ((((e.set x .no).set i (.fz (.list xs))).set j (.fz (.list ys))).set x (.fz (.list ys))) with
              | .ok true => .rt d
              | .ok false => .nx (e.set x .no)
              | _ => .no)
            | _ => .no)
          | 1 => (match ft ((((e.set x .no).set i (.fz (.list xs))).set j (.fz (.list ys))).set x (.fz (.list ys))) with
              | .ok true => .rt d
              | .ok false => .nx (e.set x .no)
              | _ => .no)
          | _ => .nx (e.set x .no))) ⟨upd_same, hpi, hpj, s0, q⟩ (fun k σ' H' _ h => SqL.of h.1) (fun k v σ' H' hv h => ?_) (fun σ' H' h => h.2.2.2.2.nx h.2.2.2.1)
      obtain ⟨hl', hσi, hσj, s', q'⟩ := h
      match k, hv, q' with
      | 0, hv, q' =>
        cases hv
        cases hft : ft ((((e.set x .no).set i (.fz (.list xs))).set j (.fz (.list ys))).set x (.fz (.list xs))) with
        | ex c => simp only [hft] at q'; exact q'.elim
        | no => simp only [hft] at q'; exact q'.elim
        | ok bb =>
          refine turn2 (W := W) s' h0i h0j hij hxi hxj h0x (.inl ⟨rfl, rfl⟩) hσi hft fun H2 g2 => ?_
          have s2 := (s'.any h0x (some (.ref p))).heap g2
          simp only [hft] at q'
          cases bb with
          | true =>
            rw [if_pos rfl]
            exact ⟨_, lk, F, R, s2, q'⟩
          | false =>
            rw [if_neg Bool.false_ne_true]
            exact ⟨g2 _ _ hl', by rw [List.getElem?_set_ne hxi]; exact hσi, by rw [List.getElem?_set_ne hxj]; exact hσj, s2, q'⟩
      | 1, hv, q' =>
        cases hv
        cases hft : ft ((((e.set x .no).set i (.fz (.list xs))).set j (.fz (.list ys))).set x (.fz (.list ys))) with
        | ex c => simp only [hft] at q'; exact q'.elim
        | no => simp only [hft] at q'; exact q'.elim
        | ok bb =>
          refine turn2 (W := W) s' h0i h0j hij hxi hxj h0x (.inr ⟨rfl, rfl⟩) hσj hft fun H2 g2 => ?_
          have s2 := (s'.any h0x (some (.ref p'))).heap g2
          simp only [hft] at q'
          cases bb with
          | true =>
            rw [if_pos rfl]
            exact ⟨_, lk, F, R, s2, q'⟩
          | false =>
            rw [if_neg Bool.false_ne_true]
            exact ⟨g2 _ _ hl', by rw [List.getElem?_set_ne hxi]; exact hσi, by rw [List.getElem?_set_ne hxj]; exact hσj, s2, q'⟩
      | k + 2, hv, _ => simp at hv
    · rw [if_neg hcnd] at q
      exact q.elim
  · exact q.elim
/-! ### a, b = two new lists -/
theorem SR.hide {K : PySem.W.Frag} {mg : Str → Option Value} {lk : Nat → Option (Addr × List V)} {F H : Hp} {R : Ix → Hp} {σ : Sg} {e : Ev} (s : SR K mg lk F R σ H e) {p : Addr} {o : HO} (hp : H p = some o) (nf : F p = none) (nr : ∀ j, R j p = none) : SR K mg lk F (hidR R p o) σ H e where
  len := s.len
  fh := s.fh
  rh := fun j => by
    by_cases h : j = .hid p
    · subst h
      rw [hidR_same]
      intro b u q
      obtain ⟨rfl, rfl⟩ := one_at q
      exact hp
    · rw [hidR_ne h]
      exact s.rh j
  rr := fun j k a hn q => by
    by_cases h : j = .hid p
    · subst h
      rw [hidR_same] at q
      have := one_ne q
      subst this
      rw [hidR_ne (Ne.symm hn)]
      exact nr k
    · rw [hidR_ne h] at q
      by_cases h' : k = .hid p
      · subst h'
        rw [hidR_same]
        unfold one
        split
        · rename_i e
          subst e
          exact absurd (nr j) q
        · rfl
      · rw [hidR_ne h']
        exact s.rr j k a hn q
  rf := fun j a q => by
    by_cases h : j = .hid p
    · subst h
      rw [hidR_same] at q
      have := one_ne q
      subst this
      exact nf
    · rw [hidR_ne h] at q
      exact s.rf j a q
  hid := fun D a q => by
    by_cases h : D = p
    · subst h
      rw [hidR_same] at q
      exact one_ne q
    · rw [hidR_ne (by intro e; cases e; exact h rfl)] at q
      exact s.hid D a q
  at_ := fun i x q => by
    rw [hidR_ne (by intro h; cases h)]
    exact s.at_ i x q
theorem SR.unhide {K : PySem.W.Frag} {mg : Str → Option Value} {lk : Nat → Option (Addr × List V)} {F H : Hp} {R : Ix → Hp} {σ : Sg} {e : Ev} {p : Addr} {o : HO} (s : SR K mg lk F (hidR R p o) σ H e) (nr : ∀ a, R (.hid p) a = none) : SR K mg lk F R σ H e where
  len := s.len
  fh := s.fh
  rh := fun j => by
    by_cases h : j = .hid p
    · subst h
      intro b u q
      rw [nr] at q
      cases q
    · have := s.rh j
      rw [hidR_ne h] at this
      exact this
  rr := fun j k a hn q => by
    by_cases h : j = .hid p
    · subst h
      exact absurd (nr a) q
    · by_cases h' : k = .hid p
      · subst h'
        exact nr a
      · have := s.rr j k a hn (by rw [hidR_ne h]; exact q)
        rw [hidR_ne h'] at this
        exact this
  rf := fun j a q => by
    by_cases h : j = .hid p
    · subst h
      exact absurd (nr a) q
    · exact s.rf j a (by rw [hidR_ne h]; exact q)
  hid := fun D a q => by
    by_cases h : D = p
    · subst h
      exact absurd (nr a) q
    · exact s.hid D a (by rw [hidR_ne (by intro e; cases e; exact h rfl)]; exact q)
  at_ := fun i x q => by
    have := s.at_ i x q
    rw [hidR_ne (by intro h; cases h)] at this
    exact this
def sParF (i j : Nat) (f g : Ev → Res (List PyData)) : SS := fun e => match f e with
  | .ok ds => (match g e with
    | .ok es => if i = j then .no else .nx ((e.set i (.ow ds)).set j (.ow es))
    | _ => .no)
  | _ => .no
theorem cs_parF {x y : Str} {px py pt : Pos} {kt k2 pt2} {f g : Ev → Res (List PyData)} (hc : X.calm = true) (hN : X.N.Nodup) (hi : X.N[i]? = some x) (hj : X.N[j]? = some y) (hij : i ≠ j)
    (hx : X.env.scope.names.lookup x = some .local) (hy : X.env.scope.names.lookup y = some .local) {xa xb : Expr} (ha : PA X [xa, xb] (tCons (tX X.K X.mg W (pF X.K X.mg) f) (tCons (tX X.K X.mg W (pF X.K X.mg) g) tNil)))
    (hw : swappedStores [.Tuple [.Name x px, .Name y py] kt pt] (.Tuple [xa, xb] k2 pt2) X.env = pure (some [x, y]))
    (hs : swapsWithSole [.Tuple [.Name x px, .Name y py] kt pt] (.Tuple [xa, xb] k2 pt2) pos.line X.env = pure false := by rfl) :
    CS X W (.Assign [.Tuple [.Name x px, .Name y py] kt pt] (.Tuple [xa, xb] k2 pt2) pos) (sParF i j f g) := (ps_par hc hN hi hj hij hx hy ha hw hs).imp fun D σ H q => by
  obtain ⟨e, lk, F, R, s, q⟩ := q
  unfold sParF at q
  refine ⟨e, lk, F, R, s, ?_⟩
  cases hf : f e with
  | ex c => rw [hf] at q; exact q.elim
  | no => rw [hf] at q; exact q.elim
  | ok ds =>
    rw [hf] at q
    dsimp only at q
    intro v1 H1 F1 f1 g1 s1 p1
    obtain ⟨p, vs, rfl, hp, nf, nr, hr⟩ := p1
    have hh : ∀ a, R (.hid p) a = none := fun a => by
      cases ho : R (.hid p) a with
      | none => rfl
      | some o =>
        have := s1.hid p a (by rw [ho]; intro h; cases h)
        subst this
        rw [nr] at ho
        cases ho
    have s1' := s1.hide hp nf nr
    refine ⟨e, lk, F1, _, s1', ?_⟩
    cases hg : g e with
    | ex c => rw [hg] at q; exact q.elim
    | no => rw [hg] at q; exact q.elim
    | ok es =>
      rw [hg] at q
      dsimp only at q
      rw [if_neg hij] at q
      intro v2 H2 F2 f2 g2 s2 p2
      obtain ⟨p', vs', rfl, hp', nf', nr', hr'⟩ := p2
      have nfp : F2 p = none := s2.rf (.hid p) p (by rw [hidR_same, one_same]; intro h; cases h)
      have hpp : p ≠ p' := fun e => by
        subst e
        have := nr' (.hid p)
        rw [hidR_same, one_same] at this
        cases this
      have s3 := s2.unhide hh
      have nr3 : ∀ j, R j p' = none := fun j => by
        by_cases h : j = .hid p
        · subst h; exact hh _
        · have := nr' j
          rw [hidR_ne h] at this
          exact this
      have s4 := s3.setO i (g2 _ _ hp) nfp nr (hr.mono f2)
      have s5 := s4.setO j hp' nf' (fun k => by
        by_cases h : k = .sl i
        · subst h
          rw [slR_same]
          unfold one
          rw [if_neg (Ne.symm hpp)]
        · rw [slR_ne h]; exact nr3 k) hr'
      exact ⟨_, _, rfl, q _ _ F2 _ (f1.trans f2) (KeepR.sl.trans KeepR.sl) s5⟩
/-- nothing is promised -/
def sNone : SS := fun _ => .no
theorem css_none {sts : List Stmt} : CSs X W sts sNone := pss_never.imp fun D σ H q => by
  obtain ⟨_, _, _, _, _, q⟩ := q
  exact q.elim
end
end VL
end
section
set_option Elab.async false
set_option linter.all false
set_option maxRecDepth 100000
set_option autoImplicit false
set_option maxHeartbeats 4000000
/-! The value layer: try .. except X as e. In the suite the error stands at slot i, at the address a. -/
namespace VL
open PySem PySem.Spec PyProof.Rows L2
def tI {β : Type} (i : Nat) (a : Addr) (t : Sg → Hp → β → Prop) : Sg → Hp → β → Prop := fun σ H Q => σ[i]? = some (some (.ref a)) ∧ t σ H Q
abbrev CEi (X : Cx) (W : WX) (i : Nat) (a : Addr) (x : Expr) (f : Ev → Res PyData) : Prop := PE X x (tI i a (tX X.K X.mg W (pE X.K X.mg) f))
abbrev CFi (X : Cx) (W : WX) (i : Nat) (a : Addr) (x : Expr) (f : Ev → Res (List PyData)) : Prop := PE X x (tI i a (tX X.K X.mg W (pF X.K X.mg) f))
abbrev CTi (X : Cx) (W : WX) (i : Nat) (a : Addr) (x : Expr) (f : Ev → Res Bool) : Prop := PT X x (tI i a (tX X.K X.mg W pT f))
abbrev CWi (X : Cx) (W : WX) (i : Nat) (a : Addr) (x : Expr) (f : Ev → Res Bool) : Prop := PW X x (tI i a (tX X.K X.mg W pT f))
abbrev CAEi (X : Cx) (W : WX) (i : Nat) (a : Addr) (x : List Expr) (f : Ev → Res (List PyData)) : Prop := PA X x (tI i a (tX X.K X.mg W (pA (pE X.K X.mg)) f))
def tSi (K : PySem.W.Frag) (mg : Str → Option Value) (W : WX) (i : Nat) (a : Addr) (f : SS) : TS := fun D σ H => σ[i]? = some (some (.ref a)) ∧ tS K mg W f D σ H
abbrev CSsi (X : Cx) (W : WX) (i : Nat) (a : Addr) (st : List Stmt) (f : SS) : Prop := PSs X st (tSi X.K X.mg W i a f)
section
variable {X : Cx} {W : WX} {i : Nat} {a : Addr} {x b c : Expr} {rest : List Expr} {f g fa fb : Ev → Res PyData} {ga gb : Ev → Res Bool} {fr : Ev → Res (List PyData)} {pos : Pos}
theorem i_e (h : CE X W x f) : CEi X W i a x f := h.imp fun _ _ _ q => q.2
theorem i_t (h : CT X W x ga) : CTi X W i a x ga := h.imp fun _ _ _ q => q.2
theorem cei_one {op} (h : CEi X W i a x f) : CEi X W i a (.BoolOp op [x] pos) f := pe_one h
theorem cei_or (ha : CEi X W i a x fa) (hb : CEi X W i a (.BoolOp .Or (b :: rest) pos) fb) : CEi X W i a (.BoolOp .Or (x :: b :: rest) pos) (vOr fa fb) := (pe_or ha hb).imp fun σ H Q q => by
  obtain ⟨hσ, e, lk, F, R, s, q⟩ := q
  refine ⟨hσ, e, lk, F, R, s, resOk.bind q fun k v H1 F1 f1 g1 s1 p1 q1 => ?_⟩
  cases p1 with
  | bl k =>
    refine ⟨k, rfl, ?_⟩
    cases k with
    | true =>
      rw [if_pos rfl]
      exact q1.fin s1 (.bl true)
    | false =>
      rw [if_neg Bool.false_ne_true]
      exact ⟨hσ, e, lk, F1, R, s1, q1⟩
  | _ => exact q1.elim
theorem cei_and (ha : CEi X W i a x fa) (hb : CEi X W i a (.BoolOp .And (b :: rest) pos) fb) : CEi X W i a (.BoolOp .And (x :: b :: rest) pos) (vAnd fa fb) := (pe_and ha hb).imp fun σ H Q q => by
  obtain ⟨hσ, e, lk, F, R, s, q⟩ := q
  refine ⟨hσ, e, lk, F, R, s, resOk.bind q fun k v H1 F1 f1 g1 s1 p1 q1 => ?_⟩
  cases p1 with
  | bl k =>
    refine ⟨k, rfl, ?_⟩
    cases k with
    | true =>
      rw [if_pos rfl]
      exact ⟨hσ, e, lk, F1, R, s1, q1⟩
    | false =>
      rw [if_neg Bool.false_ne_true]
      exact q1.fin s1 (.bl false)
  | _ => exact q1.elim
theorem cei_not (ha : CEi X W i a x fa) : CEi X W i a (.UnaryOp .Not x pos) (b1 fa vNot) := (pe_not ha).imp fun σ H Q q => by
  obtain ⟨hσ, e, lk, F, R, s, q⟩ := q
  refine ⟨hσ, e, lk, F, R, s, resOk.bind q fun k v H1 F1 f1 g1 s1 p1 q1 => ?_⟩
  cases p1 with
  | bl k => exact ⟨k, rfl, q1.fin s1 (.bl _)⟩
  | _ => exact q1.elim
theorem cti_e (ha : CEi X W i a x f) (he : ∀ whole, isTrue x X.env whole = (do let v ← whole; standAt x.pos; holding [v] (truthy v)) := by intro _; rfl) : CTi X W i a x (b1 f asB) :=
  (pt_val ha he).imp fun σ H Q q => by
  obtain ⟨hσ, e, lk, F, R, s, q⟩ := q
  refine ⟨hσ, e, lk, F, R, s, resOk.bind q fun a v H1 F1 f1 g1 s1 p1 q1 => ?_⟩
  cases p1 with
  | bl b => exact ⟨b, rfl, q1.fin s1 rfl⟩
  | _ => exact q1.elim
theorem cti_not (ha : CTi X W i a x ga) : CTi X W i a (.UnaryOp .Not x pos) (b1 ga bNot) := (pt_not ha).imp fun σ H Q q => by
  obtain ⟨hσ, e, lk, F, R, s, q⟩ := q
  refine ⟨hσ, e, lk, F, R, s, resOk.bind q fun k v H1 F1 f1 g1 s1 p1 q1 => ?_⟩
  cases p1
  exact q1.fin s1 rfl
theorem cwi_or1 (ha : CTi X W i a x ga) : CWi X W i a (.BoolOp .Or [x] pos) ga := pw_or1 ha
theorem cwi_and1 (ha : CTi X W i a x ga) : CWi X W i a (.BoolOp .And [x] pos) ga := pw_and1 ha
theorem cwi_or (ha : CTi X W i a x ga) (hb : CWi X W i a (.BoolOp .Or (b :: rest) pos) gb) : CWi X W i a (.BoolOp .Or (x :: b :: rest) pos) (tOr2 ga gb) := (pw_or ha hb).imp fun σ H Q q => by
  obtain ⟨hσ, e, lk, F, R, s, q⟩ := q
  refine ⟨hσ, e, lk, F, R, s, resOk.bind q fun k v H1 F1 f1 g1 s1 p1 q1 => ?_⟩
  cases p1
  cases k with
  | true =>
    rw [if_pos rfl]
    exact q1.fin s1 rfl
  | false =>
    rw [if_neg Bool.false_ne_true]
    exact ⟨hσ, e, lk, F1, R, s1, q1⟩
theorem cwi_and (ha : CTi X W i a x ga) (hb : CWi X W i a (.BoolOp .And (b :: rest) pos) gb) : CWi X W i a (.BoolOp .And (x :: b :: rest) pos) (tAnd2 ga gb) := (pw_and ha hb).imp fun σ H Q q => by
  obtain ⟨hσ, e, lk, F, R, s, q⟩ := q
  refine ⟨hσ, e, lk, F, R, s, resOk.bind q fun k v H1 F1 f1 g1 s1 p1 q1 => ?_⟩
  cases p1
  cases k with
  | true =>
    rw [if_pos rfl]
    exact ⟨hσ, e, lk, F1, R, s1, q1⟩
  | false =>
    rw [if_neg Bool.false_ne_true]
    exact q1.fin s1 rfl
theorem cti_w (h : CWi X W i a x ga) : CTi X W i a x ga := h.pt
theorem caei_nil : CAEi X W i a [] aNil := cae_nil.imp fun _ _ _ q => q.2
end
section
variable {X : Cx} {W : WX} {i : Nat} {a : Addr} {x b c : Expr} {rest : List Expr} {f g fa fb : Ev → Res PyData} {ga gb : Ev → Res Bool} {fr : Ev → Res (List PyData)} {pos : Pos}
/-! statements of the suite -/
theorem cssi_of {st : List Stmt} {f : SS} (h : CSs X W st f) : CSsi X W i a st f := h.imp fun _ _ _ q => q.2
theorem cssi_ret (he : CEi X W i a x f) : CSsi X W i a [.Return (some x) pos] (sRetE f) := (pss_one (ps_ret he)).imp fun D σ H q => by
  obtain ⟨hσ, e, lk, F, R, s, q⟩ := q
  refine ⟨hσ, e, lk, F, R, s, fin.bind q fun d v H1 F1 f1 g1 s1 p1 q1 => ?_⟩
  exact q1 v H1 F1 R (Same.refl _) (KeepR.refl _) s1.bare p1
theorem cssi_if {body : List Stmt} {fs : SS} (hc : CTi X W i a c ga) (hb : CSs X W body fs) : CSsi X W i a [.If c body [] pos] (sIf ga fs sNil) := (pss_one (ps_if hc hb pss_nil)).imp fun D σ H q => by
  obtain ⟨hσ, e, lk, F, R, s, q⟩ := q
  refine ⟨hσ, e, lk, F, R, s, fin.bindT q fun b H1 F1 f1 g1 s1 q1 => ?_⟩
  cases b with
  | true =>
    rw [if_pos rfl]
    exact ⟨e, lk, F1, R, s1, q1⟩
  | false =>
    rw [if_neg Bool.false_ne_true]
    exact q1.nx s1
theorem cssi_asg {j : Nat} {y : Str} {pos' : Pos} {st : List Stmt} {gs : SS} (hN : X.N.Nodup) (hi : X.N[j]? = some y) (hx : Loc X.env.scope y) (he : CEi X W i a x f) (hr : CSsi X W i a st gs) (hji : j ≠ i) (hs : swapsWith x (some (.Name y pos')) pos.line X.env = pure false := by rfl)
    (hf : X.fn y = true ∨ X.env.scope.names.lookup y = some .local := by first | exact .inl rfl | exact .inr rfl) : CSsi X W i a (.Assign [.Name y pos'] x pos :: st) (sSeq (sAsgE j f) gs) :=
  (pss_cons (ps_set hN hi hx he hs hf) hr).imp fun D σ H q => by
  obtain ⟨hσ, e, lk, F, R, s, q⟩ := q
  refine ⟨hσ, e, lk, F, R, s, ?_⟩
  rw [sSeq_eq] at q
  unfold sAsgE at q
  cases hf : f e with
  | ex c => rw [hf] at q; exact fun C H2 F2 m f2 g2 s2 => q C σ H2 F2 R m f2 (KeepR.refl _) s2
  | no => rw [hf] at q; exact q
  | ok d =>
    rw [hf] at q
    intro v H1 F1 f1 g1 s1 p1
    refine ⟨by rw [List.getElem?_set_ne hji]; exact hσ, _, lk, F1, R, s1.setF j p1, ?_⟩
    exact fin.up f1 (KeepR.refl _) q
where
  sSeq_eq {f g : SS} {e : Ev} : sSeq f g e = match f e with
    | .nx e' => g e'
    | o => o := rfl
end
/-- isinstance of the error -/
theorem cei_is {X : Cx} {W : WX} {i : Nat} {a D E : Addr} {oe : Obj} {pn : List (Addr × Obj)} {n d : Str} {bb : Bool} {pos p p2 p3 : Pos} (C : ExcC X.K D) (hz : Zc (.ref D) none oe) (hf : ∃ vs, oe.data = .fields vs) (hg : Gl (X.suite a ((a, oe) :: pn)) "isinstance") (hm : X.mg "isinstance" = none)
    (hn : PE (X.suite a ((a, oe) :: pn)) (.Name n p2) (tVar i)) (hgd : Gl (X.suite a ((a, oe) :: pn)) d) (hE : X.mg d = some (.ref E)) (hk : PySem.W.kitOne X.K (.ref D) (.ref E) = some bb) (hdb : (d == ("__debug__" : Str)) = false := by decide)
    (he : starEach [.Name n p2, .Name d p3] (X.suite a ((a, oe) :: pn)).env = (false, eval (.Name n p2) (X.suite a ((a, oe) :: pn)).env) :: starEach [.Name d p3] (X.suite a ((a, oe) :: pn)).env := by rfl)
    (he2 : starEach [.Name d p3] (X.suite a ((a, oe) :: pn)).env = (false, eval (.Name d p3) (X.suite a ((a, oe) :: pn)).env) :: starEach [] (X.suite a ((a, oe) :: pn)).env := by rfl)
    (hpl : (backTo pos (starEach [.Name d p3] (X.suite a ((a, oe) :: pn)).env)).any (·.1) = false := by rfl) :
    CEi (X.suite a ((a, oe) :: pn)) W i a (.Call (.Name "isinstance" p) [.Name n p2, .Name d p3] [] pos) (eC (.bool bb)) :=
  (pe_callB (call_isE C hz hf) hg hm (by decide +kernel) (pa_cons hn (pa_cons (pe_glob (v := .ref E) hgd hE rfl hdb) pa_nil he2) he) (by decide) (by decide) he hpl).imp fun σ H Q q => by
  obtain ⟨hσ, e, lk, F, R, s, q⟩ := q
  exact ⟨_, hσ, .ref E, .ref E, bb, rfl, fun u hu => hu, hk, q.fin s (.bl bb)⟩
theorem PSs.ex {X : Cx} {st : List Stmt} {ι : Type} {P : ι → Prop} {t : ι → TS} (h : ∀ k, P k → PSs X st (t k)) : PSs X st (fun D σ H => ∃ k, P k ∧ t k D σ H) := ⟨fun pins s σ H D I q => by
  obtain ⟨k, hk, q⟩ := q
  exact (h k hk).run pins s σ H D I q⟩
/-! ### try -/
def sTry (i : Nat) (subs : List Str) (fb : SS) (fh : Str → SS) : SS := fun e => match fb e with
  | .ex c e' => if decide (c ∈ subs ∧ i < e'.length) then (match fh c (e'.set i .no) with
    | .nx e2 => if i < e2.length then .nx (e2.set i .no) else .no
    | .rt d => .rt d
    | .rl ds => .rl ds
    | _ => .no) else .no
  | o => o
theorem cs_try {X : Cx} {W : WX} {i : Nat} {n hx : Str} {Dh : Addr} {body suite : List Stmt} {b₀ : Stmt} {np pos pos' : Pos} {fb : SS} {fh : Str → SS} (subs : List Str) (hs : X.stack = X.env :: X.outer) (hf : X.env.frame = some X.env.locals) (hN : X.N.Nodup) (hi : X.N[i]? = some n) (hln : X.env.kindOf n = some .local)
    (hc : Names X hx (.ref Dh)) (tk : Takes X W) (hex : ∀ c ∈ subs, ∀ C, X.mg c = some (.ref C) → PySem.W.exmOne X.K (.ref C) (.ref Dh) = some true)
    (hb : ∀ (W' : WX) (pn : List (Addr × Obj)) (xe : Value → Shared → Prop), Takes (X.tr pn xe) W' → PassesOwn (model X.prog X.w) X.A X.env xe → CSs (X.tr pn xe) W' body fb)
    (hsu : ∀ (a : Addr) (oe : Obj) (C : Addr) (pn : List (Addr × Obj)), Zc (.ref C) none oe → (∃ vs, oe.data = .fields vs) → ∀ c ∈ subs, X.mg c = some (.ref C) → CSsi (X.suite a ((a, oe) :: pn)) W0 i a (b₀ :: suite) (fh c)) :
    CS X W (.Try body [.ExceptHandler (some (.Name hx np)) (some n) (b₀ :: suite) pos'] [] [] pos) (sTry i subs fb fh) :=
  (ps_try_as (tb := fun W' => tS X.K X.mg W' fb) (ts := fun a cls d => fun D σ H => ∃ k : Str × Addr, (k.1 ∈ subs ∧ X.mg k.1 = some (.ref k.2) ∧ cls = .ref k.2 ∧ d = none) ∧ tSi X.K X.mg W0 i a (fh k.1) D σ H) hs hf hN hi hln hc tk hb
    (fun a oe cls d pn hz hf => PSs.ex fun k hk => by
      obtain ⟨h1, h2, rfl, rfl⟩ := hk
      exact hsu a oe k.2 pn hz hf k.1 h1 h2)).imp fun D σ H q => by
  obtain ⟨e, lk, F, R, s, q⟩ := q
  refine ⟨e, lk, F, R, s, ?_⟩
  unfold sTry at q
  cases ho : fb e with
  | nx e' => rw [ho] at q; exact q
  | bk e' => rw [ho] at q; exact q
  | ct e' => rw [ho] at q; exact q
  | rt d => rw [ho] at q; exact q
  | rl ds => rw [ho] at q; exact q
  | rg d => rw [ho] at q; exact q
  | rs e' d => rw [ho] at q; exact q
  | no => rw [ho] at q; exact q
  | ex c e' =>
    rw [ho] at q
    dsimp only at q
    by_cases hcnd : decide (c ∈ subs ∧ i < e'.length) = true
    · rw [if_pos hcnd] at q
      obtain ⟨hmem, hil⟩ := of_decide_eq_true hcnd
      intro C σ' H' F' R' m f k s'
      refine ⟨true, hex c hmem C m, fun _ a na => ?_, fun h => by cases h⟩
      have hno : (e'.set i .no)[i]? = some .no := List.getElem?_set_self hil
      refine ⟨(c, C), ⟨hmem, m, rfl, rfl⟩, List.getElem?_set_self (by rw [← s'.len]; exact hil), e'.set i .no, lk, F', R', (s'.setN i).any hno _, ?_⟩
      cases hh : fh c (e'.set i .no) with
      | nx e2 =>
        rw [hh] at q
        dsimp only at q
        by_cases hl2 : i < e2.length
        · rw [if_pos hl2] at q
          exact fun σ2 H2 F2 R2 f2 k2 s2 => q _ H2 F2 R2 (f.trans f2) (k.trans k2) ((s2.setN i).any (List.getElem?_set_self hl2) none)
        · rw [if_neg hl2] at q
          exact q.elim
      | rt d => rw [hh] at q; exact fin.up f k q
      | rl ds => rw [hh] at q; exact fin.up f k q
      | bk e' => rw [hh] at q; exact q.elim
      | ct e' => rw [hh] at q; exact q.elim
      | rg d => rw [hh] at q; exact q.elim
      | rs e' d => rw [hh] at q; exact q.elim
      | ex c e' => rw [hh] at q; exact q.elim
      | no => rw [hh] at q; exact q.elim
    · rw [if_neg hcnd] at q
      exact q.elim
end VL
end
section
set_option Elab.async false
set_option linter.all false
set_option maxRecDepth 100000
set_option autoImplicit false
set_option maxHeartbeats 4000000
/-! The value layer: int(..), in a tuple, chains of three comparisons. -/
namespace VL
open PySem PySem.Spec PyProof.Rows L2
section
variable {K : PySem.W.Frag} {mg : Str → Option Value}
def intV : List PyData → Option PyData
  | [.int i] => some (.int i)
  | [.bool k] => some (.int (if k then 1 else 0))
  | _ => none
theorem fl_intV : CallFl K mg (fun xs H Q => (∃ i, xs = [.int i] ∧ Q (.int i) H) ∨ ∃ k, xs = [.bl k] ∧ Q (.int (if k then 1 else 0)) H) intV := by
  intro H vs ds c hr hh
  unfold intV at hh
  split at hh
  · cases hh
    obtain ⟨v, rfl, h⟩ := hr.one
    cases h
    exact ⟨.int _, fun _ => .int _, fun Q q => .inl ⟨_, rfl, q⟩⟩
  · cases hh
    obtain ⟨v, rfl, h⟩ := hr.one
    cases h
    exact ⟨.int _, fun _ => .int _, fun Q q => .inr ⟨_, rfl, q⟩⟩
  · cases hh
/-- one flat thing is another -/
def eqF : PyData → PyData → Bool
  | .none, .none => true
  | .int i, .int j => decide (i = j)
  | .str x, .str y => decide (x = y)
  | _, _ => false
def flat3 : PyData → Bool
  | .none => true
  | .int _ => true
  | .str _ => true
  | _ => false
theorem eqF_ok {H : Hp} {x y : V} {a b : PyData} (hx : Rp K mg H x a) (hy : Rp K mg H y b) (fa : flat3 a = true) (fb : flat3 b = true) : flatV x = true ∧ flatV y = true ∧ eqV y x = eqF b a := by
  cases hx <;> first | (cases fa; done) | skip
  all_goals (cases hy <;> first | (cases fb; done) | skip)
  all_goals refine ⟨rfl, rfl, ?_⟩
  all_goals first | rfl | (unfold eqV eqF; dsimp only; simp) | skip
theorem eqF_all {H : Hp} {x : V} {a : PyData} (hx : Rp K mg H x a) (fa : flat3 a = true) : ∀ {ys : List V} {bs : List PyData}, RpA K mg H ys bs → bs.all flat3 = true → flatV x = true ∧ ys.all flatV = true ∧ inV x ys = bs.any fun b => eqF b a
  | _, _, .nil, _ => ⟨(eqF_ok hx hx fa fa).1, rfl, rfl⟩
  | _, _, .cons h t, f => by
    rw [List.all_cons, Bool.and_eq_true] at f
    obtain ⟨h1, h2, h3⟩ := eqF_all hx fa t f.2
    obtain ⟨g1, g2, g3⟩ := eqF_ok hx h fa f.1
    refine ⟨g1, by rw [List.all_cons, g2, h2]; rfl, ?_⟩
    show (eqV _ x || inV x _) = _
    rw [g3, h3]
    rfl
/-- in a tuple of flat things -/
def inTu (neg : Bool) (a b : PyData) : Option PyData := match b with
  | .tuple ds => if flat3 a && ds.all flat3 then some (.bool (if neg then !(ds.any fun b => eqF b a) else ds.any fun b => eqF b a)) else none
  | _ => none
theorem fl_inTu (neg : Bool) : OpFl K mg (rIn K neg) (inTu neg) := by
  intro H x y a b c ha hb hh
  cases hb with
  | @tup p xs ds hp hr =>
    unfold inTu at hh
    dsimp only at hh
    by_cases h : (flat3 a && ds.all flat3) = true
    · rw [if_pos h] at hh
      rw [Bool.and_eq_true] at h
      cases hh
      obtain ⟨h1, h2, h3⟩ := eqF_all ha h.1 hr h.2
      rw [← h3]
      exact ⟨.bl _, fun _ => .bl _, fun Q q => ⟨p, xs, rfl, .inr (SqT.of hp), h1, h2, q⟩⟩
    · rw [if_neg h] at hh
      cases hh
  | _ => cases hh
end
def rgR : PyData → Res (List PyData) := fun d => match d with | .int n => (if decide (0 ≤ n ∧ n ≤ 100000) then .ok (rgL 0 n) else .no) | _ => .no
theorem cf_listRg {X : Cx} {W : WX} {a : Expr} {fa : Ev → Res PyData} {pos p p2 p3 : Pos} (hc : X.calm = true) (hg : Gl X "list") (hm : X.mg "list" = none) (hg2 : Gl X "range") (hm2 : X.mg "range" = none) (ha : CB X W a fa)
    (na : starEach [a] X.env = (false, eval a X.env) :: starEach [] X.env := by rfl) (nb : starEach [.Call (.Name "range" p2) [a] [] p3] X.env = (false, eval (.Call (.Name "range" p2) [a] [] p3) X.env) :: starEach [] X.env := by rfl) :
    CF X W (.Call (.Name "list" p) [.Call (.Name "range" p2) [a] [] p3] [] pos) (b1 fa rgR) := cf_listRg1 hc hg hm hg2 hm2 ha na nb
/-! ### chains of three comparisons, as a test -/
section
variable {X : Cx} {W : WX} {a b c d : Expr} {fa fb fc fd : Ev → Res PyData} {pos : Pos} {r r' r'' : R2} {h h' h'' : PyData → PyData → Option PyData}
def tCh3 (r r' r'' : R2) (ta tb tc td : TE) : TE := fun σ H Q => ta σ H fun x H1 => tb σ H1 fun y H2 => r x y H2 fun z H3 => ∃ k, z = .bl k ∧
  (if k = true then tc σ H3 fun w' H4 => r' y w' H4 fun z H5 => ∃ k, z = .bl k ∧ (if k = true then td σ H5 fun v' H6 => r'' w' v' H6 Q else Q (.bl false) H5) else Q (.bl false) H3)
theorem pt_chain3 {ta tb tc td : TE} {op op' op'' : CmpOp} (ho : OpR X (compareOp op) r) (ho' : OpR X (compareOp op') r') (ho'' : OpR X (compareOp op'') r'') (ha : PE X a ta) (hb : PE X b tb) (hc : PE X c tc) (hd : PE X d td)
    (hm : lastMarks [op, op', op''] [b, c, d] = false := by with_unfolding_all rfl) : PT X (.Compare a [op, op', op''] [b, c, d] pos) (tTest (tCh3 r r' r'' ta tb tc td)) := by
  refine ⟨fun pins s σ H Q I h => ?_⟩
  refine isTrue_chain (L2.thn (ha.run pins s σ H _ I h) fun v s1 ⟨x, H1, I1, r1, q1⟩ => test_link (L2.thn (hb.run pins s1 σ H1 _ I1 q1) fun u s2 ⟨y, H2, I2, r2, q2⟩ =>
    L2.thn (ho pins s2 σ H2 x y v u _ I2 r1 r2 q2) fun d s3 ⟨z, H3, I3, r3, k, e, q3⟩ => ?_)) hm
  subst e
  cases r3
  refine wpAny_truthy_bool ?_
  cases k with
  | false =>
    obtain ⟨k', e', q'⟩ := q3
    cases e'
    exact ite_ff ⟨H3, I3, q'⟩
  | true =>
    refine ite_tt (test_link (L2.thn (hc.run pins s3 σ H3 _ I3 q3) fun w' s4 ⟨z', H4, I4, r4, q4⟩ => L2.thn (ho' pins s4 σ H4 y z' u w' _ I4 r2 r4 q4) fun d' s5 ⟨z2, H5, I5, r5, k2, e2, q5⟩ => ?_))
    subst e2
    cases r5
    refine wpAny_truthy_bool ?_
    cases k2 with
    | false =>
      obtain ⟨k', e', q'⟩ := q5
      cases e'
      exact ite_ff ⟨H5, I5, q'⟩
    | true =>
      refine ite_tt (test_last (L2.thn (hd.run pins s5 σ H5 _ I5 q5) fun w2 s6 ⟨z3, H6, I6, r6, q6⟩ => L2.thn (ho'' pins s6 σ H6 z' z3 w' w2 _ I6 r4 r6 q6) fun d2 s7 ⟨z4, H7, I7, r7, k3, e3, q7⟩ => ?_))
      subst e3
      cases r7
      exact wpAny_truthy_bool ⟨H7, I7, q7⟩
def chain3 (fa fb fc fd : Ev → Res PyData) (h h' h'' : PyData → PyData → Option PyData) : Ev → Res PyData := fun e =>
  (fa e).bind fun a => (fb e).bind fun b => (ofO (h a b)).bind fun z => match z with
    | .bool true => (fc e).bind fun c => (ofO (h' b c)).bind fun z => match z with
      | .bool true => (fd e).bind fun d => ofO (h'' c d)
      | .bool false => .ok (.bool false)
      | _ => .no
    | .bool false => .ok (.bool false)
    | _ => .no
theorem x_chain3 (hs : OpFl X.K X.mg r h) (hs' : OpFl X.K X.mg r' h') (hs'' : OpFl X.K X.mg r'' h'') : ∀ σ H Q, tX X.K X.mg W (pE X.K X.mg) (chain3 fa fb fc fd h h' h'') σ H Q →
    tCh3 r r' r'' (tX X.K X.mg W (pB X.K X.mg) fa) (tX X.K X.mg W (pB X.K X.mg) fb) (tX X.K X.mg W (pB X.K X.mg) fc) (tX X.K X.mg W (pB X.K X.mg) fd) σ H Q := by
  intro σ H Q q
  obtain ⟨e, lk, F, R, s, q⟩ := q
  refine ⟨e, lk, F, R, s, resOk.bind q fun a v H1 F1 f1 g1 s1 p1 q1 => ?_⟩
  refine ⟨e, lk, F1, R, s1, resOk.bind q1 fun b u H2 F2 f2 g2 s2 p2 q2 => ?_⟩
  have p1' : Rp X.K X.mg H2 v a := Rp.mono g2 p1
  try dsimp only at q2
  cases hh : h a b with
  | none => rw [hh] at q2; exact q2.elim
  | some z =>
    rw [hh] at q2
    obtain ⟨zv, hz, hr⟩ := hs H2 v u a b z p1' p2 hh
    refine hr _ ?_
    have hz0 := hz H2
    cases hz0 with
    | bl k =>
      refine ⟨k, rfl, ?_⟩
      cases k with
      | false =>
        rw [if_neg Bool.false_ne_true]
        exact q2.fin s2 (.bl false)
      | true =>
        rw [if_pos rfl]
        refine ⟨e, lk, F2, R, s2, resOk.bind q2 fun c w H3 F3 f3 g3 s3 p3 q3 => ?_⟩
        have p2' : Rp X.K X.mg H3 u b := Rp.mono g3 p2
        cases hh' : h' b c with
        | none => rw [hh'] at q3; exact q3.elim
        | some z' =>
          rw [hh'] at q3
          obtain ⟨zv', hz', hr'⟩ := hs' H3 u w b c z' p2' p3 hh'
          refine hr' _ ?_
          have hz1 := hz' H3
          cases hz1 with
          | bl k2 =>
            refine ⟨k2, rfl, ?_⟩
            cases k2 with
            | false =>
              rw [if_neg Bool.false_ne_true]
              exact q3.fin s3 (.bl false)
            | true =>
              rw [if_pos rfl]
              refine ⟨e, lk, F3, R, s3, resOk.bind q3 fun d w2 H4 F4 f4 g4 s4 p4 q4 => ?_⟩
              have p3' : Rp X.K X.mg H4 w c := Rp.mono g4 p3
              cases hh2 : h'' c d with
              | none => rw [hh2] at q4; exact q4.elim
              | some z2 =>
                rw [hh2] at q4
                obtain ⟨zv2, hz2, hr2⟩ := hs'' H4 w w2 c d z2 p3' p4 hh2
                exact hr2 _ (q4.fin s4 (hz2 _))
          | _ => exact q3.elim
    | _ => exact q2.elim
theorem ct_chain3 {op op' op'' : CmpOp} (ho : OpR X (compareOp op) r) (ho' : OpR X (compareOp op') r') (ho'' : OpR X (compareOp op'') r'') (hs : OpFl X.K X.mg r h) (hs' : OpFl X.K X.mg r' h') (hs'' : OpFl X.K X.mg r'' h'') (ha : CB X W a fa) (hb : CB X W b fb) (hc : CB X W c fc) (hd : CB X W d fd)
    (hm : lastMarks [op, op', op''] [b, c, d] = false := by with_unfolding_all rfl) : CT X W (.Compare a [op, op', op''] [b, c, d] pos) (b1 (chain3 fa fb fc fd h h' h'') asB) :=
  (pt_chain3 ho ho' ho'' ha hb hc hd hm).imp (asB_test (x_chain3 hs hs' hs''))
end
end VL
end
section
set_option Elab.async false
set_option linter.all false
set_option maxRecDepth 100000
set_option autoImplicit false
set_option maxHeartbeats 4000000
/-! The value layer: a pair with a new list in it, returned and taken apart. -/
namespace VL
open PySem PySem.Spec PyProof.Rows L2
section
variable {X : Cx} {W : WX} {x y : Expr} {f1 : Ev → Res PyData} {fl : Ev → Res (List PyData)} {pos tpos : Pos} {k : Nat}
def sRetTL (f1 : Ev → Res PyData) (fl : Ev → Res (List PyData)) : SS := fun e => match f1 e with
  | .ok a => thn (fl e) e fun ds => if flatD a && ds.all flatD then .rg (.tuple [a, .list ds]) else .no
  | _ => .no
theorem cs_retTL (ha : PA X [x, y] (tCons (tX X.K X.mg W (pE X.K X.mg) f1) (tCons (tX X.K X.mg W (pF X.K X.mg) fl) tNil))) : CS X W (.Return (some (.Tuple [x, y] k tpos)) pos) (sRetTL f1 fl) := (ps_ret (pe_tup ha)).imp fun D σ H q => by
  obtain ⟨e, lk, F, R, s, q⟩ := q
  unfold sRetTL at q
  refine ⟨e, lk, F, R, s, ?_⟩
  cases hf : f1 e with
  | ex c => rw [hf] at q; exact q.elim
  | no => rw [hf] at q; exact q.elim
  | ok a =>
    rw [hf] at q
    intro v1 H1 F1 h1 g1 s1 p1
    refine ⟨e, lk, F1, R, s1, fin.bind (fin.up h1 (KeepR.refl _) q) fun ds v2 H2 F2 h2 g2 s2 p2 q2 => ?_⟩
    obtain ⟨p, vs, rfl, hp, nf, nr, hr⟩ := p2
    refine ⟨by show 2 ≤ sizeLine; decide, fun t ht => ?_⟩
    by_cases hfl : (flatD a && ds.all flatD) = true
    · rw [if_pos hfl] at q2
      rw [Bool.and_eq_true] at hfl
      have hpt : p ≠ t := fun e => by rw [e, ht] at hp; cases hp
      refine q2 (.ref t) _ F2 R (upd (one p (.lst vs)) t (.tup [v1, .ref p])) (Same.refl _) (KeepR.refl _) (s2.heap (same_upd ht)).bare ?_ ?_ ?_
      · intro b o q
        by_cases hb : b = t
        · subst hb
          rw [upd_same] at q ⊢
          exact q
        · rw [upd_ne hb] at q ⊢
          obtain ⟨rfl, rfl⟩ := one_at q
          exact hp
      · intro b q
        by_cases hb : b = t
        · subst hb
          exact ⟨s2.newF ht, s2.newR ht .base⟩
        · rw [upd_ne hb] at q
          have := one_ne q
          subst this
          exact ⟨nf, nr .base⟩
      · exact ⟨[t, p], by simp [hpt.symm], .tup upd_same (.cons (as := []) (.flat hfl.1 (p1.flat hfl.1)) (.cons (as := [p]) (.lst (by rw [upd_ne hpt, one_same]) (RfA.flat hr hfl.2)) .nil))⟩
    · rw [if_neg hfl] at q2
      exact q2.elim
end
theorem kit_ref {K : PySem.W.Frag} {C E : Addr} {b : Bool} (hd : PySem.W.hasDictIn K E = true) (ht : PySem.W.typeIn K (.ref E) = some (.type "type")) (hs : PySem.W.subIn K (.ref C) (.ref E) = some b) (hc : PySem.W.subIn K (.ref C) (.ref C) = some true) : PySem.W.kitOne K (.ref C) (.ref E) = some b := by
  unfold PySem.W.kitOne
  by_cases h : ((Value.ref C) == (Value.ref E)) = true
  · rw [if_pos h]
    have e : C = E := Value.ref.inj (beq_iff_eq.mp h)
    subst e
    rw [hc] at hs
    exact hs
  · rw [if_neg h]
    unfold PySem.W.kitCls
    obtain ⟨cd, hcd, _⟩ := PySem.W.any_some hd
    have e2 : ((PySem.W.clsIn K E).isSome && PySem.W.typeIn K (.ref E) == some (.type "type")) = true := by rw [hcd, ht] <;> rfl
    dsimp only
    rw [if_pos e2]
    exact hs
def sUnpG (i j : Nat) (g : List PyData → RF) (np : Nat) (fr : Ev → Res (List PyData)) : SS := fun e => match fr e with
  | .ok ds => if ds.length = np then (match g ds with
    | .val d => (match tgSet (.tp [i, j]) d e with
      | some e' => .nx e'
      | none => .no)
    | .rgn (.tuple [a, .list l]) => if flatD a && l.all flatD && decide (i ≠ j) then .nx ((e.set i (.fz a)).set j (.ow l)) else .no
    | _ => .no) else .no
  | _ => .no
section
variable {X : Cx} {W : WX} {x : Str} {p pos cpos : Pos} {ex tg : Expr} {es : List Expr} {fr : Ev → Res (List PyData)} {g : List PyData → RF} {k np i j : Nat}
theorem cs_unpG (c : Callee X.prog X.w X.K X.mg X.base k x np g) (hr : Room k X.A) (tk : Takes X W) (hg : Gl X x) (ha : CAE X W (ex :: es) fr) (ht : PG X tg (gOf X.K (.tp [i, j]))) (hdb : (x == ("__debug__" : Str)) = false := by decide) (he : starEach (ex :: es) X.env = (false, eval ex X.env) :: starEach es X.env := by rfl)
    (hpl : (backTo cpos (starEach es X.env)).any (·.1) = false := by rfl) (hs : swapsWithSole [tg] (.Call (.Name x p) (ex :: es) [] cpos) pos.line X.env = pure false := by rfl) (hw : swappedStores [tg] (.Call (.Name x p) (ex :: es) [] cpos) X.env = pure none := by rfl) (h1 : (assignEach [tg] X.env).map (·.2) = [assign tg X.env] := by rfl) :
    CS X W (.Assign [tg] (.Call (.Name x p) (ex :: es) [] cpos) pos) (sUnpG i j g np fr) := by
  obtain ⟨f, fd, ps, _, hm, hk, hb, F⟩ := c.ex
  refine (ps_asg (pe_callS F hr hg hm hk hb (fun σ => passAt tk σ) ha hdb he hpl) ht hs hw h1).imp fun D σ H q => ?_
  obtain ⟨e, lk, F0, R, s, q⟩ := q
  unfold sUnpG at q
  refine ⟨e, lk, F0, R, s, ?_⟩
  cases hf : fr e with
  | ex c => rw [hf] at q; exact q.elim
  | no => rw [hf] at q; exact q.elim
  | ok ds =>
    rw [hf] at q
    dsimp only at q
    intro vs H1 F1 f1 g1 s1 p1
    by_cases hl : ds.length = np
    · rw [if_pos hl] at q
      refine ⟨F1, ds, s1.fh, RpA.of_paired p1, hl, ?_⟩
      have newSR : ∀ {H' G : Hp}, Same H1 H' → Same F1 G → Same G H' → (∀ a, H1 a ≠ none → F1 a = none → G a = none) → SR X.K X.mg lk G R σ H' e := fun {H' G} a b c d => by
        have s2 := s1.heap a
        refine ⟨s2.len, c, s2.rh, s2.rr, fun j a q => ?_, s2.hid, fun i x q => (s2.at_ i x q).mono b⟩
        obtain ⟨o, ho⟩ := nn_some q
        exact d a (by rw [s1.rh j _ _ ho]; intro h; cases h) (s1.rf j a q)
      cases hgd : g ds with
      | val d =>
        rw [hgd] at q
        dsimp only at q
        cases htg : tgSet (.tp [i, j]) d e with
        | none => rw [htg] at q; exact q.elim
        | some e' =>
          rw [htg] at q
          exact fun v H' G a b c d' r => tg_run (newSR a b c d') r htg fun σ' _ s2 => q σ' H' G R (f1.trans b) (KeepR.refl _) s2
      | lst ds' => rw [hgd] at q; exact q.elim
      | exc c => rw [hgd] at q; exact q.elim
      | no => rw [hgd] at q; exact q.elim
      | rgn d =>
        rw [hgd] at q
        intro v H' G sH sG hG r
        have r := r.rp
        cases r with
        | @tup t xs ds2 hp hr2 =>
          match ds2, hr2, q with
          | [a, .list l], hr2, q =>
            dsimp only at q
            by_cases hc : (flatD a && l.all flatD && decide (i ≠ j)) = true
            · rw [if_pos hc] at q
              rw [Bool.and_eq_true, Bool.and_eq_true] at hc
              obtain ⟨⟨ha1, hl1⟩, hij⟩ := hc
              obtain ⟨x1, x2, rfl, r1, r2⟩ := hr2.two
              cases r2 with
              | @lst pp ws _ hpp hrr =>
                refine ⟨t, [x1, .ref pp], rfl, SqT.of (sG _ _ hp), rfl, x1, [.ref pp], rfl, .ref pp, [], rfl, rfl, ?_⟩
                have s2 := (s1.heap sH).setF i (r1.flat ha1 (H' := F1))
                have hn : H1 pp = none := hG pp (by rw [hpp]; intro h; cases h)
                have s3 := s2.setO j (sG _ _ hpp) (s1.newF hn) (s1.newR hn) (hrr.flat hl1)
                exact q _ H' F1 _ f1 KeepR.sl s3
            · rw [if_neg hc] at q
              exact q.elim
          | [], _, q => exact q.elim
          | [_], _, q => exact q.elim
          | [_, .none], _, q => exact q.elim
          | [_, .bool _], _, q => exact q.elim
          | [_, .int _], _, q => exact q.elim
          | [_, .str _], _, q => exact q.elim
          | [_, .tuple _], _, q => exact q.elim
          | [_, .dict _], _, q => exact q.elim
          | _ :: y :: _ :: _, _, q => cases y <;> exact q.elim
        | non => exact q.elim
        | bl _ => exact q.elim
        | int _ => exact q.elim
        | str _ => exact q.elim
        | lst _ _ => exact q.elim
        | ins _ _ _ _ => exact q.elim
        | scr _ => exact q.elim
    · rw [if_neg hl] at q
      exact q.elim
end
end VL
end
section
set_option Elab.async false
set_option linter.all false
set_option maxRecDepth 100000
set_option autoImplicit false
set_option maxHeartbeats 4000000
/-! The value layer: a dict of the frame's own: tuples of ints to ints. -/
namespace VL
open PySem PySem.Spec PyProof.Rows L2
def lookI (kvs : List (List Int × Int)) (k : List Int) : Option Int := (kvs.find? fun q => decide (q.1 = k)).map (·.2)
def putI (kvs : List (List Int × Int)) (k : List Int) (v : Int) : List (List Int × Int) :=
  if (kvs.any fun q => decide (q.1 = k)) = true then kvs.map (fun q => if q.1 = k then (q.1, v) else q) else kvs ++ [(k, v)]
theorem inl_inj : ∀ a b : List Int, (a.map Sum.inl : List Key) = b.map Sum.inl ↔ a = b
  | [], [] => by simp
  | [], _ :: _ => by simp
  | _ :: _, [] => by simp
  | x :: a, y :: b => by
    rw [List.map_cons, List.map_cons, List.cons.injEq, List.cons.injEq, inl_inj a b, Sum.inl.injEq]
theorem look_eq (k : List Int) : ∀ kvs : List (List Int × Int), valV (dctV kvs) (k.map Sum.inl) = (lookI kvs k).map V.int
  | [] => rfl
  | q :: kvs => by
    have ih := look_eq k kvs
    unfold valV lookI dctV at *
    rw [List.map_cons, List.find?_cons, List.find?_cons]
    by_cases h : q.1 = k
    · have h2 : (q.1.map Sum.inl : List Key) = k.map Sum.inl := (inl_inj _ _).mpr h
      simp [h]
    · have h2 : ¬ (q.1.map Sum.inl : List Key) = k.map Sum.inl := fun e => h ((inl_inj _ _).mp e)
      simp only [decide_eq_false h, decide_eq_false h2]
      exact ih
theorem put_eq (k : List Int) (v : Int) (kvs : List (List Int × Int)) : putK (dctV kvs) (k.map Sum.inl) (V.int v) = dctV (putI kvs k v) := by
  have ha : ((dctV kvs).any fun kv => decide (kv.1 = (k.map Sum.inl : List Key))) = kvs.any fun q => decide (q.1 = k) := by
    unfold dctV
    rw [List.any_map]
    congr 1
    funext q
    show decide ((q.1.map Sum.inl : List Key) = k.map Sum.inl) = decide (q.1 = k)
    congr 1
    exact propext (inl_inj _ _)
  unfold putK putI
  rw [ha]
  split
  · unfold dctV
    rw [List.map_map, List.map_map]
    apply List.map_congr_left
    intro q _
    by_cases h : q.1 = k
    · have h2 : (q.1.map Sum.inl : List Key) = k.map Sum.inl := (inl_inj _ _).mpr h
      simp [h]
    · have h2 : ¬ (q.1.map Sum.inl : List Key) = k.map Sum.inl := fun e => h ((inl_inj _ _).mp e)
      show (if (q.1.map Sum.inl : List Key) = k.map Sum.inl then _ else _) = _
      rw [if_neg h2]
      simp [h]
  · unfold dctV
    rw [List.map_append]
    rfl
section
variable {K : PySem.W.Frag} {mg : Str → Option Value} {lk : Nat → Option (Addr × List V)} {F H H' : Hp} {R : Ix → Hp} {σ : Sg} {e : Ev}
def slO (R : Ix → Hp) (i : Nat) (p : Addr) (o : HO) : Ix → Hp := fun j => if j = .sl i then one p o else R j
theorem slO_same {i : Nat} {p : Addr} {o : HO} : slO R i p o (.sl i) = one p o := by unfold slO; rw [if_pos rfl]
theorem slO_ne {i : Nat} {p : Addr} {o : HO} {j : Ix} (h : j ≠ .sl i) : slO R i p o j = R j := by unfold slO; rw [if_neg h]
theorem KeepR.slO {i : Nat} {p : Addr} {o : HO} : KeepR R (slO R i p o) := ⟨slO_ne (by intro h; cases h), fun a => slO_ne (by intro h; cases h)⟩
/-- slot i now holds the object at p, which lies in no part but slot i's -/
theorem SR.ownO (s : SR K mg lk F R σ H e) {i : Nat} {p : Addr} {o : HO} {q : OB} (nf : F p = none) (nr : ∀ j, j ≠ .sl i → R j p = none) (hH : ∀ b u, b ≠ p → H b = some u → H' b = some u) (hp : H' p = some o) (hq : ObOk K mg (one p o) (.ref p) q) {σ' : Sg}
    (hl : σ'.length = σ.length) (hi : i < σ.length → σ'[i]? = some (some (.ref p))) (ho : ∀ j, j ≠ i → σ'[j]? = σ[j]?) : SR K mg lk F (slO R i p o) σ' H' (e.set i (.ob q)) where
  len := by rw [List.length_set, hl]; exact s.len
  fh := fun b u q => by
    have hb : b ≠ p := fun h => by rw [h, nf] at q; cases q
    exact hH b u hb (s.fh _ _ q)
  rh := fun j => by
    by_cases h : j = .sl i
    · subst h
      rw [slO_same]
      intro b u q
      obtain ⟨rfl, rfl⟩ := one_at q
      exact hp
    · rw [slO_ne h]
      intro b u q
      have hb : b ≠ p := fun h' => by rw [h', nr j h] at q; cases q
      exact hH b u hb (s.rh j _ _ q)
  rr := fun j k a hn q => by
    by_cases h : j = .sl i
    · subst h
      rw [slO_same] at q
      have := one_ne q
      subst this
      rw [slO_ne (Ne.symm hn)]
      exact nr k (Ne.symm hn)
    · rw [slO_ne h] at q
      by_cases h' : k = .sl i
      · subst h'
        rw [slO_same]
        unfold one
        split
        · rename_i e
          subst e
          exact absurd (nr j h) q
        · rfl
      · rw [slO_ne h']
        exact s.rr j k a hn q
  rf := fun j a q => by
    by_cases h : j = .sl i
    · subst h
      rw [slO_same] at q
      have := one_ne q
      subst this
      exact nf
    · rw [slO_ne h] at q
      exact s.rf j a q
  hid := fun D a q => by
    rw [slO_ne (by intro h; cases h)] at q
    exact s.hid D a q
  at_ := fun j x z => by
    by_cases hj : i = j
    · subst hj
      have hl : i < e.length := by
        have := (List.getElem?_eq_some_iff.mp z).1
        rwa [List.length_set] at this
      rw [List.getElem?_set_self hl] at z
      cases z
      exact ⟨_, hi (by rw [← s.len]; exact hl), by rw [slO_same]; exact hq⟩
    · rw [List.getElem?_set_ne hj] at z
      rw [ho j (Ne.symm hj), slO_ne (by intro h; cases h; exact hj rfl)]
      exact s.at_ j x z
theorem SR.dct (s : SR K mg lk F R σ H e) {i : Nat} {kvs : List (List Int × Int)} (he : e[i]? = some (.ob (.dct kvs))) : ∃ p, σ[i]? = some (some (.ref p)) ∧ H p = some (.dT (dctV kvs)) ∧
    ∀ kvs', SR K mg lk F (slO R i p (.dT (dctV kvs'))) σ (upd H p (.dT (dctV kvs'))) (e.set i (.ob (.dct kvs'))) := by
  obtain ⟨v, hx, p, rfl, hr⟩ := s.at_ i _ he
  have h1 : H p = some (.dT (dctV kvs)) := s.rh (.sl i) _ _ (by rw [hr, one_same])
  have nf : F p = none := s.rf (.sl i) p (by rw [hr, one_same]; intro h; cases h)
  have nr : ∀ j, j ≠ .sl i → R j p = none := fun j hj => s.rr (.sl i) j p (Ne.symm hj) (by rw [hr, one_same]; intro h; cases h)
  exact ⟨p, hx, h1, fun kvs' => s.ownO (q := .dct kvs') nf nr (fun b u hb q => by rw [upd_ne hb]; exact q) upd_same ⟨p, rfl, rfl⟩ rfl (fun _ => hx) fun _ _ => rfl⟩
/-- the ints of a key -/
def keyI : PyData → Option (List Int)
  | .tuple ds => intsOf ds
  | _ => none
theorem key_rp {v : V} {d : PyData} {k : List Int} (h : Rp K mg H v d) (e : keyI d = some k) : ∃ b, v = .ref b ∧ H b = some (.tup ((k.map Sum.inl : List Key).map kV)) := by
  cases h with
  | tup hp hr =>
    have e1 := intsOf_eq e
    subst e1
    have e2 := hr.ints
    subst e2
    refine ⟨_, rfl, ?_⟩
    rw [hp, List.map_map]
    rfl
  | _ => cases e
end
section
variable {X : Cx} {W : WX} {a b x : Expr} {fa fb : Ev → Res PyData} {pos pos' dpos : Pos} {i : Nat} {n : Str}
def sDNew (i : Nat) : SS := fun e => .nx (e.set i (.ob (.dct [])))
theorem cs_dnew (hN : X.N.Nodup) (hi : X.N[i]? = some n) (hx : Loc X.env.scope n) (hs : swapsWith (.Dict [] [] dpos) (some (.Name n pos')) pos.line X.env = pure false := by rfl) (hf : X.fn n = true ∨ X.env.scope.names.lookup n = some .local := by first | exact .inl rfl | exact .inr rfl) :
    CS X W (.Assign [.Name n pos'] (.Dict [] [] dpos) pos) (sDNew i) := (ps_set hN hi hx pe_dnewT hs hf).imp fun D σ H q => by
  obtain ⟨e, lk, F, R, s, q⟩ := q
  intro p hp
  have s1 := s.heap (same_upd (o := .dT []) hp)
  exact q _ _ F _ (Same.refl _) KeepR.slO (s1.ownO (i := i) (q := .dct []) (o := .dT []) (σ' := σ.set i (some (.ref p))) (s.newF hp) (fun j _ => s.newR hp j) (fun _ _ _ q => q) upd_same ⟨p, rfl, rfl⟩ (by rw [List.length_set]) (fun h => List.getElem?_set_self h) fun j hj => List.getElem?_set_ne (Ne.symm hj))
def dInE (i : Nat) (fa : Ev → Res PyData) : Ev → Res Bool := fun e => (fa e).bind fun d => match e[i]?, keyI d with
  | some (.ob (.dct kvs)), some k => .ok (lookI kvs k).isSome
  | _, _ => .no
theorem ct_din (hu : X.A.units + 1 < cLine) (ha : CB X W a fa) (hd : PE X b (tVar i)) (h1 : behindInMarks .In b = false := by first | exact nobehind _ (by decide) (by decide) | rfl) : CT X W (.Compare a [.In] [b] pos) (dInE i fa) := (pt_cmp (pc_din hu ha hd) h1).imp fun σ H Q q => by
  obtain ⟨e, lk, F, R, s, q⟩ := q
  refine ⟨e, lk, F, R, s, resOk.bind q fun d v H1 F1 f1 g1 s1 p1 q1 => ?_⟩
  split at q1
  · rename_i kvs k he hk
    obtain ⟨p, hx, hp, _⟩ := s1.dct he
    obtain ⟨bb, rfl, hb⟩ := key_rp p1 hk
    refine ⟨_, hx, p, _, rfl, DGet.t hp hb, _, rfl, ?_⟩
    rw [look_eq, Option.isSome_map]
    exact q1.fin s1 rfl
  · exact q1.elim
def dGetE (i : Nat) (fb : Ev → Res PyData) : Ev → Res PyData := fun e => match e[i]? with
  | some (.ob (.dct kvs)) => (fb e).bind fun d => match keyI d with
    | some k => (match lookI kvs k with
      | some v => .ok (.int v)
      | none => .no)
    | none => .no
  | _ => .no
theorem ce_dget (hu : X.A.units + 1 < cLine) (hd : PE X a (tVar i)) (hb : CB X W b fb) (hs : NoSl b) : CE X W (.Subscript a b pos) (dGetE i fb) := (pe_dget hu hd hb hs).imp fun σ H Q q => by
  obtain ⟨e, lk, F, R, s, q⟩ := q
  unfold dGetE at q
  split at q
  · rename_i kvs he
    obtain ⟨p, hx, hp, _⟩ := s.dct he
    refine ⟨_, hx, e, lk, F, R, s, resOk.bind q fun d v H1 F1 f1 g1 s1 p1 q1 => ?_⟩
    split at q1
    · rename_i k hk
      split at q1
      · rename_i w hw
        obtain ⟨bb, rfl, hb⟩ := key_rp p1 hk
        refine ⟨p, .int w, rfl, ?_, q1.fin s1 (.int w)⟩
        have := DGet.t (g1 _ _ hp) hb
        rw [look_eq, hw] at this
        exact this
      · exact q1.elim
    · exact q1.elim
  · exact q.elim
def sDPutI (i : Nat) (fk fv : Ev → Res PyData) : SS := fun e => match fv e with
  | .ok (.int v) => (match e[i]? with
    | some (.ob (.dct kvs)) => (match fk e with
      | .ok d => (match keyI d with
        | some k => if small kvs.length then .nx (e.set i (.ob (.dct (putI kvs k v)))) else .no
        | none => .no)
      | _ => .no)
    | _ => .no)
  | _ => .no
theorem cs_dput {xv : Expr} {fv : Ev → Res PyData} (hu : X.A.units + 1 < cLine) (hd : PE X a (tVar i)) (hk : CB X W b fb) (hv : CE X W xv fv) (hs : swapsWith xv (some (.Subscript a b pos')) pos.line X.env = pure false := by rfl) :
    CS X W (.Assign [.Subscript a b pos'] xv pos) (sDPutI i fb fv) := (ps_dput hu hd hk hv hs).imp fun D σ H q => by
  obtain ⟨e, lk, F, R, s, q⟩ := q
  unfold sDPutI at q
  refine ⟨e, lk, F, R, s, ?_⟩
  cases hf : fv e with
  | ex c => rw [hf] at q; exact q.elim
  | no => rw [hf] at q; exact q.elim
  | ok dv =>
    rw [hf] at q
    intro vv H1 F1 f1 g1 s1 p1
    cases p1 with
    | int v =>
      dsimp only at q
      split at q
      · rename_i kvs he
        obtain ⟨p, hx, hp, _⟩ := s1.dct he
        refine ⟨_, hx, e, lk, F1, R, s1, ?_⟩
        cases hk2 : fb e with
        | ex c => rw [hk2] at q; exact q.elim
        | no => rw [hk2] at q; exact q.elim
        | ok d =>
          rw [hk2] at q
          intro kv H2 F2 f2 g2 s2 p2
          dsimp only at q
          cases hki : keyI d with
          | none => rw [hki] at q; exact q.elim
          | some k =>
            rw [hki] at q
            dsimp only at q
            by_cases hsm : small kvs.length = true
            · rw [if_pos hsm] at q
              obtain ⟨bb, rfl, hb⟩ := key_rp p2 hki
              obtain ⟨p', hx', hp', hput⟩ := s2.dct he
              rw [hx] at hx'
              cases hx'
              refine ⟨p, _, rfl, DPut.t hp' hb ?_, ?_⟩
              · unfold dctV
                rw [List.length_map]
                exact Nat.lt_of_le_of_lt (of_decide_eq_true hsm : kvs.length ≤ 100000) (by decide)
              · rw [put_eq]
                exact q _ _ F2 _ (f1.trans f2) KeepR.slO (hput _)
            · rw [if_neg hsm] at q
              exact q.elim
      · exact q.elim
    | non => exact q.elim
    | bl _ => exact q.elim
    | str _ => exact q.elim
    | lst _ _ => exact q.elim
    | tup _ _ => exact q.elim
    | ins _ _ _ _ => exact q.elim
    | scr _ => exact q.elim
end
end VL
end
section
set_option Elab.async false
set_option linter.all false
set_option maxRecDepth 100000
set_option autoImplicit false
set_option maxHeartbeats 4000000
/-! The value layer: texts. -/
namespace VL
open PySem PySem.Spec PyProof.Rows L2
section
variable {K : PySem.W.Frag} {mg : Str → Option Value}
def addS : PyData → PyData → Option PyData
  | .str i, .str j => if small (i.length + j.length) then some (.str (i ++ j)) else none
  | _, _ => none
theorem fl_addS : OpFl K mg (fun x y H Q => ∃ i j, x = .str i ∧ y = .str j ∧ i.length + j.length ≤ sizeLine ∧ Q (.str (i ++ j)) H) addS := by
  intro H x y a b c ha hb hh
  unfold addS at hh
  split at hh
  · cases ha
    cases hb
    split at hh
    · rename_i h
      cases hh
      exact ⟨.str _, fun _ => .str _, fun Q q => ⟨_, _, rfl, rfl, small_le h, q⟩⟩
    · cases hh
  · cases hh
def inS (neg : Bool) (a b : PyData) : Option PyData := match a, b with
  | .str x, .str z => (match x.cps.toList with
    | [c] => some (.bool (if neg then !decide (c ∈ z.cps.toList) else decide (c ∈ z.cps.toList)))
    | _ => none)
  | _, _ => none
theorem one_sign {x : Str} {c : Nat} (h : x.cps.toList = [c]) : x = ⟨#[c]⟩ := by
  obtain ⟨a⟩ := x
  obtain ⟨l⟩ := a
  have h : l = [c] := h
  rw [h]
theorem fl_inS : OpFl K mg (fun x y H Q => ∃ (c : Nat) (z : Str), x = .str ⟨#[c]⟩ ∧ y = .str z ∧ Q (.bl (decide (c ∈ z.cps.toList))) H) (inS false) := by
  intro H x y a b c ha hb hh
  unfold inS at hh
  split at hh
  · cases ha
    cases hb
    split at hh
    · rename_i c hc
      cases hh
      rw [one_sign hc]
      exact ⟨.bl _, fun _ => .bl _, fun Q q => ⟨_, _, rfl, rfl, q⟩⟩
    · cases hh
  · cases hh
theorem fl_notInS : OpFl K mg (fun x y H Q => ∃ (c : Nat) (z : Str), x = .str ⟨#[c]⟩ ∧ y = .str z ∧ Q (.bl (!decide (c ∈ z.cps.toList))) H) (inS true) := by
  intro H x y a b c ha hb hh
  unfold inS at hh
  split at hh
  · cases ha
    cases hb
    split at hh
    · rename_i c hc
      cases hh
      rw [one_sign hc]
      exact ⟨.bl _, fun _ => .bl _, fun Q q => ⟨_, _, rfl, rfl, q⟩⟩
    · cases hh
  · cases hh
def intS : List PyData → Option PyData
  | [.str a] => if a.length ≤ 640 then (PySem.intText? a).map .int else none
  | _ => none
theorem fl_intS : CallFl K mg (fun xs H Q => ∃ a n, xs = [.str a] ∧ PySem.intText? a = some n ∧ a.length ≤ 640 ∧ Q (.int n) H) intS := by
  intro H vs ds c hr hh
  unfold intS at hh
  split at hh
  · obtain ⟨v, rfl, h⟩ := hr.one
    cases h
    split at hh
    · rename_i hl
      cases hn : PySem.intText? _ with
      | none => rw [hn] at hh; cases hh
      | some n =>
        rw [hn] at hh
        cases hh
        exact ⟨.int _, fun _ => .int _, fun Q q => ⟨_, _, rfl, hn, hl, q⟩⟩
    · cases hh
  · cases hh
def strD : List PyData → Option PyData
  | [.int i] => if i.natAbs.log2 < 1920 then some (.str (toString i)) else none
  | _ => none
theorem fl_str : CallFl K mg (fun xs H Q => ∃ i, xs = [.int i] ∧ i.natAbs.log2 < 1920 ∧ Q (.str (toString i)) H) strD := by
  intro H vs ds c hr hh
  unfold strD at hh
  split at hh
  · obtain ⟨v, rfl, h⟩ := hr.one
    cases h
    split at hh
    · rename_i hl
      cases hh
      exact ⟨.str _, fun _ => .str _, fun Q q => ⟨_, rfl, hl, q⟩⟩
    · cases hh
  · cases hh
def strsOf : List PyData → Option (List Str)
  | [] => some []
  | .str x :: r => (strsOf r).map (x :: ·)
  | _ => none
theorem strsOf_vs {H : Hp} : ∀ {vs : List V} {ds : List PyData} {ys : List Str}, RpA K mg H vs ds → strsOf ds = some ys → vs = ys.map V.str
  | _, _, ys, .nil, e => by cases e; rfl
  | _, _, ys, .cons h t, e => by
    cases h with
    | str x =>
      unfold strsOf at e
      cases hs : strsOf _ with
      | none => rw [hs] at e; cases e
      | some zs =>
        rw [hs] at e
        cases e
        rw [strsOf_vs t hs]
        rfl
    | _ => cases e
theorem rpA_strs {H : Hp} : ∀ ys : List Str, RpA K mg H (ys.map V.str) (ys.map .str)
  | [] => .nil
  | y :: ys => .cons (.str y) (rpA_strs ys)
end
section
variable {X : Cx} {W : WX} {a b : Expr} {fa fb : Ev → Res PyData} {pos apos : Pos}
def cutSD (d : PyData) (lo hi : Option Int) : Option PyData := match d with
  | .str z => if small z.length then some (.str (cutS z lo hi)) else none
  | _ => none
theorem ce_cutS {lo hi : Option Expr} {fl fh : Ev → Res (Option Int)} {p2 : Pos} (ha : CB X W a fa) (hl : CO X W lo fl) (hh : CO X W hi fh) : CE X W (.Subscript a (.Slice lo hi none p2) pos) (b3 fa fl fh fun d lo hi => ofO (cutSD d lo hi)) := (pe_slice sl_str ha hl hh).imp fun σ H Q q => by
  obtain ⟨e, lk, F, R, s, q⟩ := q
  refine ⟨e, lk, F, R, s, resOk.bind q fun a v H1 F1 f1 g1 s1 p1 q1 => ?_⟩
  refine ⟨e, lk, F1, R, s1, resOk.bind q1 fun b u H2 F2 f2 g2 s2 p2 q2 => ?_⟩
  refine ⟨e, lk, F2, R, s2, resOk.bind q2 fun c w H3 F3 f3 g3 s3 p3 q3 => ?_⟩
  cases p2
  cases p3
  try dsimp only at q3
  unfold cutSD at q3
  cases p1 with
  | str z =>
    dsimp only at q3
    by_cases h : small z.length = true
    · rw [if_pos h] at q3
      exact ⟨z, rfl, small_le h, q3.fin s3 (.str _)⟩
    · rw [if_neg h] at q3
      exact q3.elim
  | _ => exact q3.elim
def joinD (a b : PyData) : Option PyData := match a, b with
  | .str x, .list ds => (match strsOf ds with
    | some ys => if decide ((ys.map (·.length)).sum + ys.length * x.length ≤ 16777216) then some (.str (Txt.join x ys)) else none
    | none => none)
  | _, _ => none
def mS (fa fb : Ev → Res PyData) {γ : Type} (h : PyData → PyData → Option γ) : Ev → Res γ := fun e => (fa e).bind fun a => match a with
  | .str x => (fb e).bind fun b => ofO (h (.str x) b)
  | _ => .no
theorem ce_join {cpos : Pos} (ho : CB X W a fa) (hb : CB X W b fb) (hbase : attributeBase a "join" X.env (eval a X.env) = eval a X.env := by rfl)
    (hfew : ((backTo cpos (starEach (b :: []) X.env)).all (fun x => !x.1) && (backToKw cpos (keywordEach [] X.env)).all (fun x => x.1.isSome)
      && decide ((b :: []).length + ([] : List Keyword).length + (if ([] : List Keyword).isEmpty then 0 else 1) < 30)) = true := by rfl)
    (hline : (apos.endLine == cpos.line) = true := by rfl) (hs : starEach (b :: []) X.env = (false, eval b X.env) :: starEach [] X.env := by rfl) (hplain : (backTo cpos (starEach [] X.env)).any (·.1) = false := by rfl) :
    CE X W (.Call (.Attribute a "join" apos) [b] [] cpos) (mS fa fb joinD) :=
  (pe_bm PySem.F.plainAttrs_str PySem.F.slot_str_join PySem.F.type_str_join mt_join ho (pa_cons hb pa_nil hs) hbase hfew hline hs hplain).imp fun σ H Q q => by
  obtain ⟨e, lk, F, R, s, q⟩ := q
  refine ⟨e, lk, F, R, s, resOk.bind q fun d v H1 F1 f1 g1 s1 p1 q1 => ?_⟩
  cases p1 with
  | str x =>
    dsimp only at q1
    refine ⟨rfl, e, lk, F1, R, s1, resOk.bind q1 fun d2 u H2 F2 f2 g2 s2 p2 q2 => ?_⟩
    unfold joinD at q2
    cases p2 with
    | @lst p vs ds hp hr =>
      dsimp only at q2
      cases hy : strsOf ds with
      | none => rw [hy] at q2; exact q2.elim
      | some ys =>
        rw [hy] at q2
        dsimp only at q2
        by_cases h : decide ((ys.map (·.length)).sum + ys.length * x.length ≤ 16777216) = true
        · rw [if_pos h] at q2
          have e1 := strsOf_vs hr hy
          subst e1
          exact ⟨x, p, ys, rfl, rfl, .inl (SqL.of hp), of_decide_eq_true h, q2.fin s2 (.str _)⟩
        · rw [if_neg h] at q2
          exact q2.elim
    | _ => exact q2.elim
  | _ => exact q1.elim
def splitD (a b : PyData) : Option (List PyData) := match a, b with
  | .str x, .str y => if decide (0 < y.length) && small (x.length + 2) then some ((Txt.split x y).map .str) else none
  | _, _ => none
theorem cf_split {cpos : Pos} (ho : CB X W a fa) (hb : CB X W b fb) (hbase : attributeBase a "split" X.env (eval a X.env) = eval a X.env := by rfl)
    (hfew : ((backTo cpos (starEach (b :: []) X.env)).all (fun x => !x.1) && (backToKw cpos (keywordEach [] X.env)).all (fun x => x.1.isSome)
      && decide ((b :: []).length + ([] : List Keyword).length + (if ([] : List Keyword).isEmpty then 0 else 1) < 30)) = true := by rfl)
    (hline : (apos.endLine == cpos.line) = true := by rfl) (hs : starEach (b :: []) X.env = (false, eval b X.env) :: starEach [] X.env := by rfl) (hplain : (backTo cpos (starEach [] X.env)).any (·.1) = false := by rfl) :
    CF X W (.Call (.Attribute a "split" apos) [b] [] cpos) (mS fa fb splitD) :=
  (pe_bm PySem.F.plainAttrs_str PySem.F.slot_str_split PySem.F.type_str_split mt_split ho (pa_cons hb pa_nil hs) hbase hfew hline hs hplain).imp fun σ H Q q => by
  obtain ⟨e, lk, F, R, s, q⟩ := q
  refine ⟨e, lk, F, R, s, resOk.bind q fun d v H1 F1 f1 g1 s1 p1 q1 => ?_⟩
  cases p1 with
  | str x =>
    dsimp only at q1
    refine ⟨rfl, e, lk, F1, R, s1, resOk.bind q1 fun d2 u H2 F2 f2 g2 s2 p2 q2 => ?_⟩
    unfold splitD at q2
    cases p2 with
    | str y =>
      dsimp only at q2
      by_cases h : (decide (0 < y.length) && small (x.length + 2)) = true
      · rw [if_pos h] at q2
        rw [Bool.and_eq_true] at h
        have hy := of_decide_eq_true h.1
        refine ⟨x, y, rfl, rfl, by simp; omega, small_le h.2, fun p hp => ?_⟩
        exact q2 _ _ F2 (Same.refl _) (same_upd hp) (s2.heap (same_upd hp)) ⟨p, _, rfl, upd_same, s2.newF hp, s2.newR hp, rpA_strs _⟩
      · rw [if_neg h] at q2
        exact q2.elim
    | _ => exact q2.elim
  | _ => exact q1.elim
end
end VL
end
section
set_option Elab.async false
set_option linter.all false
set_option maxRecDepth 100000
set_option autoImplicit false
set_option maxHeartbeats 4000000
/-! The value layer: regions: new ones, kept in a slot, their fields. -/
namespace VL
open PySem PySem.Spec PyProof.Rows L2
def rgS (R : Ix → Hp) (i : Nat) (G : Hp) : Ix → Hp := fun j => if j = .sl i then G else R j
theorem rgS_same {R : Ix → Hp} {i : Nat} {G : Hp} : rgS R i G (.sl i) = G := by unfold rgS; rw [if_pos rfl]
theorem rgS_ne {R : Ix → Hp} {i : Nat} {G : Hp} {j : Ix} (h : j ≠ .sl i) : rgS R i G j = R j := by unfold rgS; rw [if_neg h]
theorem KeepR.rgS {R : Ix → Hp} {i : Nat} {G : Hp} : KeepR R (rgS R i G) := ⟨rgS_ne (by intro h; cases h), fun a => rgS_ne (by intro h; cases h)⟩
section
variable {K : PySem.W.Frag} {mg : Str → Option Value} {lk : Lk} {F F' H H' : Hp} {R : Ix → Hp} {σ : Sg} {e : Ev}
/-- slot i now has the part G -/
theorem SR.regn (s : SR K mg lk F R σ H e) {i : Nat} {G : Hp} {x : Slot} (nf : ∀ a, G a ≠ none → F a = none) (nr : ∀ j a, j ≠ .sl i → G a ≠ none → R j a = none) (fh : Same F H') (rh : ∀ j, j ≠ .sl i → Same (R j) H') (hG : Same G H') {σ' : Sg}
    (hl : σ'.length = σ.length) (ho : ∀ j, j ≠ i → σ'[j]? = σ[j]?) (hx : i < σ.length → SlotOk K mg lk F G σ'[i]? i x) : SR K mg lk F (rgS R i G) σ' H' (e.set i x) where
  len := by rw [List.length_set, hl]; exact s.len
  fh := fh
  rh := fun j => by
    by_cases h : j = .sl i
    · subst h
      rw [rgS_same]
      exact hG
    · rw [rgS_ne h]
      exact rh j h
  rr := fun j k a hn q => by
    by_cases h : j = .sl i
    · subst h
      rw [rgS_same] at q
      rw [rgS_ne (Ne.symm hn)]
      exact nr k a (Ne.symm hn) q
    · rw [rgS_ne h] at q
      by_cases h' : k = .sl i
      · subst h'
        rw [rgS_same]
        cases hg : G a with
        | none => rfl
        | some o => exact absurd (nr j a h (by rw [hg]; intro z; cases z)) q
      · rw [rgS_ne h']
        exact s.rr j k a hn q
  rf := fun j a q => by
    by_cases h : j = .sl i
    · subst h
      rw [rgS_same] at q
      exact nf a q
    · rw [rgS_ne h] at q
      exact s.rf j a q
  hid := fun D a q => by
    rw [rgS_ne (by intro h; cases h)] at q
    exact s.hid D a q
  at_ := fun j y q => by
    by_cases hj : i = j
    · subst hj
      have hl : i < e.length := by
        have := (List.getElem?_eq_some_iff.mp q).1
        rwa [List.length_set] at this
      rw [List.getElem?_set_self hl] at q
      cases q
      rw [rgS_same]
      exact hx (by rw [← s.len]; exact hl)
    · rw [List.getElem?_set_ne hj] at q
      rw [ho j (Ne.symm hj), rgS_ne (by intro h; cases h; exact hj rfl)]
      exact s.at_ j y q
def rgOf : Slot → Option PyData
  | .rg d => some d
  | .sf d => some d
  | _ => none
def rgTo : Slot → PyData → Slot
  | .sf _, d => .sf d
  | _, d => .rg d
theorem SR.getR (s : SR K mg lk F R σ H e) {i : Nat} {z : Slot} {d : PyData} (he : e[i]? = some z) (hz : rgOf z = some d) : ∃ v, σ[i]? = some (some v) ∧ Own K mg (R (.sl i)) v d ∧
    ∀ (G' H' : Hp) (d' : PyData), Own K mg G' v d' → Same G' H' → (∀ b o, R (.sl i) b = none → H b = some o → H' b = some o) → (∀ a, G' a ≠ none → R (.sl i) a ≠ none ∨ (F a = none ∧ ∀ j, R j a = none)) → SR K mg lk F (VL.rgS R i G') σ H' (e.set i (rgTo z d')) := by
  have base : ∀ (G' H' : Hp) (x : Slot), Same G' H' → (∀ b o, R (.sl i) b = none → H b = some o → H' b = some o) → (∀ a, G' a ≠ none → R (.sl i) a ≠ none ∨ (F a = none ∧ ∀ j, R j a = none)) → SlotOk K mg lk F G' σ[i]? i x → SR K mg lk F (VL.rgS R i G') σ H' (e.set i x) := by
    intro G' H' x hG hH hn hx
    refine s.regn (fun a q => ?_) (fun j a hj q => ?_) (fun b o q => ?_) (fun j hj b o q => ?_) hG rfl (fun _ _ => rfl) (fun _ => hx)
    · rcases hn a q with h | h
      · exact s.rf _ a h
      · exact h.1
    · rcases hn a q with h | h
      · exact s.rr (.sl i) j a (Ne.symm hj) h
      · exact h.2 j
    · refine hH b o ?_ (s.fh _ _ q)
      cases h : R (.sl i) b with
      | none => rfl
      | some u =>
        have := s.rf (.sl i) b (by rw [h]; intro z; cases z)
        rw [this] at q
        cases q
    · refine hH b o (s.rr j (.sl i) b hj (by rw [q]; intro z; cases z)) (s.rh j _ _ q)
  have sz := s.at_ i z he
  cases z with
  | rg d0 =>
    cases hz
    obtain ⟨v, hv, hr⟩ := sz
    exact ⟨v, hv, hr, fun G' H' d' a b c n => base G' H' _ b c n ⟨v, hv, a⟩⟩
  | sf d0 =>
    cases hz
    obtain ⟨p, vs, hl, hv, hr⟩ := sz
    exact ⟨_, hv, hr, fun G' H' d' a b c n => base G' H' _ b c n ⟨p, vs, hl, hv, a⟩⟩
  | no => cases hz
  | fz _ => cases hz
  | ow _ => cases hz
  | hd _ => cases hz
  | ob _ => cases hz
end
/-- a value in a new part of its own -/
def pG (K : PySem.W.Frag) (mg : Str → Option Value) : Post V PyData := fun R F H v d => ∃ G, Same G H ∧ (∀ a, G a ≠ none → F a = none ∧ ∀ j, R j a = none) ∧ Own K mg G v d
abbrev CG (X : Cx) (W : WX) (x : Expr) (f : Ev → Res PyData) : Prop := PE X x (tX X.K X.mg W (pG X.K X.mg) f)
section
variable {X : Cx} {W : WX} {x : Expr} {i : Nat} {n : Str} {pos pos' : Pos} {fe : Ev → Res PyData} {fl : Ev → Res (List PyData)}
def okFl (ds : List PyData) : Res PyData := if ds.all flatD then .ok (.list ds) else .no
def okE (d : PyData) : Res PyData := if flatD d then .ok d else .no
theorem cg_f (h : CF X W x fl) : CG X W x (b1 fl okFl) := h.imp fun σ H Q q => by
  obtain ⟨e, lk, F, R, s, q⟩ := q
  refine ⟨e, lk, F, R, s, resOk.bind q fun ds v H1 F1 f1 g1 s1 p1 q1 => ?_⟩
  obtain ⟨p, vs, rfl, hp, nf, nr, hr⟩ := p1
  unfold okFl at q1
  by_cases hf : ds.all flatD = true
  · rw [if_pos hf] at q1
    refine q1.fin s1 ⟨one p (.lst vs), fun b o q => ?_, fun a q => ?_, [p], by simp, .lst one_same (RfA.flat hr hf)⟩
    · obtain ⟨rfl, rfl⟩ := one_at q
      exact hp
    · have := one_ne q
      subst this
      exact ⟨nf, nr⟩
  · rw [if_neg hf] at q1
    exact q1.elim
theorem cg_e (h : CE X W x fe) : CG X W x (b1 fe okE) := h.imp fun σ H Q q => by
  obtain ⟨e, lk, F, R, s, q⟩ := q
  refine ⟨e, lk, F, R, s, resOk.bind q fun d v H1 F1 f1 g1 s1 p1 q1 => ?_⟩
  unfold okE at q1
  by_cases hf : flatD d = true
  · rw [if_pos hf] at q1
    exact q1.fin s1 ⟨fun _ => none, fun b o q => by (cases q), fun a q => absurd rfl q, [], List.nodup_nil, .flat hf (p1.flat hf)⟩
  · rw [if_neg hf] at q1
    exact q1.elim
def sAsgG (i : Nat) (f : Ev → Res PyData) : SS := fun e => thn (f e) e fun d => .nx (e.set i (.rg d))
theorem x_asgG {te : TE} (k : ∀ σ H Q, tX X.K X.mg W (pG X.K X.mg) fe σ H Q → te σ H Q) : ∀ D σ H, tS X.K X.mg W (sAsgG i fe) D σ H → tAsg te (gName i) D σ H := by
  intro D σ H q
  obtain ⟨e, lk, F, R, s, q⟩ := q
  refine k σ H _ ⟨e, lk, F, R, s, fin.bind q fun d v H1 F1 f1 g1 s1 p1 q1 => ?_⟩
  obtain ⟨G, hG, hn, ho⟩ := p1
  exact q1 _ _ F1 _ (Same.refl _) KeepR.rgS (s1.regn (x := .rg d) (fun a q => (hn a q).1) (fun j a _ q => (hn a q).2 j) s1.fh (fun j _ => s1.rh j) hG (by rw [List.length_set]) (fun j hj => List.getElem?_set_ne (Ne.symm hj)) fun h => ⟨v, List.getElem?_set_self h, ho⟩)
theorem cs_asgG (hN : X.N.Nodup) (hi : X.N[i]? = some n) (hx : Loc X.env.scope n) (he : CG X W x fe) (hs : swapsWith x (some (.Name n pos')) pos.line X.env = pure false := by rfl) (hf : X.fn n = true ∨ X.env.scope.names.lookup n = some .local := by first | exact .inl rfl | exact .inr rfl) :
    CS X W (.Assign [.Name n pos'] x pos) (sAsgG i fe) := (ps_set hN hi hx he hs hf).imp (x_asgG fun _ _ _ q => q)
def sRetG (f : Ev → Res PyData) : SS := fun e => thn (f e) e .rg
theorem cs_retG (he : CG X W x fe) : CS X W (.Return (some x) pos) (sRetG fe) := (ps_ret he).imp fun D σ H q => by
  obtain ⟨e, lk, F, R, s, q⟩ := q
  refine ⟨e, lk, F, R, s, fin.bind q fun d v H1 F1 f1 g1 s1 p1 q1 => ?_⟩
  obtain ⟨G, hG, hn, ho⟩ := p1
  exact q1 v H1 F1 R G (Same.refl _) (KeepR.refl _) s1.bare hG (fun a q => ⟨(hn a q).1, (hn a q).2 _⟩) ho
end
section
variable {X : Cx} {W : WX} {x : Str} {p pos : Pos} {ex : Expr} {es : List Expr} {fr : Ev → Res (List PyData)} {g : List PyData → RF} {k np : Nat}
def callG (g : List PyData → RF) (np : Nat) (ds : List PyData) : Res PyData := if ds.length = np then (match g ds with
  | .rgn d => .ok d
  | .exc c => .ex c
  | _ => .no) else .no
/-- a call that gives a new region; the arguments stand still while it runs -/
theorem cg_call (c : Callee X.prog X.w X.K X.mg X.base k x np g) (hr : Room k X.A) (tk : Takes X W) (hg : Gl X x) (ha : CAB X W (ex :: es) fr) (hdb : (x == ("__debug__" : Str)) = false := by decide) (he : starEach (ex :: es) X.env = (false, eval ex X.env) :: starEach es X.env := by rfl)
    (hpl : (backTo pos (starEach es X.env)).any (·.1) = false := by rfl) : CG X W (.Call (.Name x p) (ex :: es) [] pos) (b1 fr (callG g np)) := by
  obtain ⟨f, fd, ps, _, hm, hk, hb, Fo⟩ := c.ex
  refine (pe_callS Fo hr hg hm hk hb (fun σ => passAt tk σ) ha hdb he hpl).imp fun σ H Q q => ?_
  obtain ⟨e, lk, F0, R, s, q⟩ := q
  refine ⟨e, lk, F0, R, s, resOk.bind q fun ds vs H1 F1 f1 g1 s1 p1 q1 => ?_⟩
  unfold callG at q1
  by_cases hl : ds.length = np
  · rw [if_pos hl] at q1
    refine ⟨H1, ds, Same.refl _, RpA.of_paired p1, hl, ?_⟩
    cases hgd : g ds with
    | rgn d =>
      rw [hgd] at q1
      intro v H' G sH sG hG r
      exact q1 v H' F1 (Same.refl _) sH (s1.heap sH) ⟨G, sG, fun a q => ⟨s1.newF (hG a q), s1.newR (hG a q)⟩, r⟩
    | exc c =>
      rw [hgd] at q1
      exact fun C H' m a => q1 C H' F1 m (Same.refl _) a (s1.heap a)
    | val d => rw [hgd] at q1; exact q1.elim
    | lst ds' => rw [hgd] at q1; exact q1.elim
    | no => rw [hgd] at q1; exact q1.elim
  · rw [if_neg hl] at q1
    exact q1.elim
end
end VL
end
section
set_option Elab.async false
set_option linter.all false
set_option maxRecDepth 100000
set_option autoImplicit false
set_option maxHeartbeats 4000000
/-! The value layer: fields of an instance. -/
namespace VL
open PySem PySem.Spec PyProof.Rows L2
abbrev enc (p : Str × PyData) : PyData × PyData := (.str p.1, p.2)
def lkD (f : Str) : List (PyData × PyData) → Option PyData
  | (.str g, v) :: r => if g = f then some v else lkD f r
  | _ => none
def putD (f : Str) (y : PyData) : List (PyData × PyData) → List (PyData × PyData)
  | [] => [(.str f, y)]
  | (.str g, x) :: r => if g = f then (.str g, y) :: r else (.str g, x) :: putD f y r
  | k :: r => k :: r
def putG (f : Str) (v : PyData) : List (Str × PyData) → List (Str × PyData)
  | [] => [(f, v)]
  | (g, x) :: r => if g = f then (g, v) :: r else (g, x) :: putG f v r
theorem putD_enc (f : Str) (y : PyData) : ∀ gs : List (Str × PyData), putD f y (gs.map enc) = (putG f y gs).map enc
  | [] => rfl
  | (g, x) :: r => by
    show (if g = f then _ else _) = _
    unfold putG
    by_cases h : g = f
    · rw [if_pos h, if_pos h]
      rfl
    · rw [if_neg h, if_neg h, putD_enc f y r]
      rfl
def fldD (c f : Str) : PyData → Option PyData
  | .dict ((.none, .str c') :: kvs) => if c' = c then lkD f kvs else none
  | _ => none
section
variable {K : PySem.W.Frag} {mg : Str → Option Value} {r : Hp}
theorem lk_fld {f : Str} {H : Hp} : ∀ {fs : List (Str × V)} {gs : List (Str × PyData)} {d : PyData}, fs.map (·.1) = gs.map (·.1) → RpA K mg H (fs.map (·.2)) (gs.map (·.2)) → lkD f (gs.map enc) = some d → ∃ w, fs.lookup f = some w ∧ Rp K mg H w d
  | [], [], _, _, _, h => by cases h
  | [], _ :: _, _, e, _, _ => by cases e
  | _ :: _, [], _, e, _, _ => by cases e
  | (g, w) :: fs, (g', dw) :: gs, d, e, ha, h => by
    rw [List.map_cons, List.map_cons] at e
    injection e with e1 e2
    have e1 : g = g' := e1
    subst e1
    rw [List.map_cons, List.map_cons] at ha
    cases ha with
    | cons h1 t =>
      have h : (if g = f then some dw else lkD f (gs.map enc)) = some d := h
      by_cases hg : g = f
      · rw [if_pos hg] at h
        cases h
        subst hg
        refine ⟨w, ?_, h1⟩
        show (match g == g with | true => some w | false => fs.lookup g) = some w
        rw [beq_self_eq_true]
      · rw [if_neg hg] at h
        obtain ⟨w', h2, h3⟩ := lk_fld e2 t h
        refine ⟨w', ?_, h3⟩
        show (match f == g with | true => some w | false => fs.lookup f) = some w'
        rw [beq_eq_false_iff_ne.mpr fun h => hg h.symm]
        exact h2
/-- one of the fields, and another one in its place -/
theorem RfA.fmod {f : Str} {w : V} : ∀ {fs : List (Str × V)} {gs : List (Str × PyData)} {bs : List Addr}, fs.map (·.1) = gs.map (·.1) → RfA K mg r (fs.map (·.2)) (gs.map (·.2)) bs → fs.lookup f = some w →
    ∃ dw b1 bw b2, lkD f (gs.map enc) = some dw ∧ bs = b1 ++ (bw ++ b2) ∧ Rf K mg r w dw bw ∧ ∀ r' dw' bw', Rf K mg r' w dw' bw' → (∀ a, a ∈ b1 ++ b2 → r' a = r a) → fs.map (·.1) = (putG f dw' gs).map (·.1) ∧ RfA K mg r' (fs.map (·.2)) ((putG f dw' gs).map (·.2)) (b1 ++ (bw' ++ b2))
  | [], [], _, _, _, h => by cases h
  | [], _ :: _, _, e, _, _ => by cases e
  | _ :: _, [], _, e, _, _ => by cases e
  | (g, v) :: fs, (g', d) :: gs, bs, e, ha, h => by
    rw [List.map_cons, List.map_cons] at e
    injection e with e1 e2
    have e1 : g = g' := e1
    subst e1
    rw [List.map_cons, List.map_cons] at ha
    cases ha with
    | @cons _ _ _ _ as bs h1 t =>
      have h : (match f == g with | true => some v | false => fs.lookup f) = some w := h
      by_cases hg : g = f
      · subst hg
        rw [beq_self_eq_true] at h
        cases h
        refine ⟨d, [], as, bs, if_pos rfl, rfl, h1, fun r' dw' bw' h' k => ?_⟩
        have ep : putG g dw' ((g, d) :: gs) = (g, dw') :: gs := if_pos rfl
        rw [ep]
        refine ⟨by rw [List.map_cons, List.map_cons, e2], ?_⟩
        show RfA K mg r' (w :: fs.map (·.2)) (dw' :: gs.map (·.2)) (bw' ++ bs)
        exact .cons h' (t.frame fun a ha => k a ha)
      · rw [beq_eq_false_iff_ne.mpr fun h => hg h.symm] at h
        obtain ⟨dw, b1, bw, b2, e3, e4, h2, k2⟩ := RfA.fmod e2 t h
        refine ⟨dw, as ++ b1, bw, b2, (if_neg hg).trans e3, by rw [e4, List.append_assoc], h2, fun r' dw' bw' h' k => ?_⟩
        rw [List.append_assoc] at k
        obtain ⟨k3, k4⟩ := k2 r' dw' bw' h' fun a ha => k a (List.mem_append_right _ ha)
        have ep : putG f dw' ((g, d) :: gs) = (g, d) :: putG f dw' gs := if_neg hg
        rw [ep, List.append_assoc]
        refine ⟨by rw [List.map_cons, List.map_cons, k3], ?_⟩
        exact .cons (h1.frame fun a ha => k a (List.mem_append_left _ ha)) k4
/-- a field is set -/
theorem RfA.put {f : Str} {w : V} {dw : PyData} {cs : List Addr} (hw : Rf K mg r w dw cs) (nc : cs.Nodup) : ∀ {fs : List (Str × V)} {gs : List (Str × PyData)} {bs : List Addr}, fs.map (·.1) = gs.map (·.1) → RfA K mg r (fs.map (·.2)) (gs.map (·.2)) bs → bs.Nodup → (∀ a, a ∈ bs → a ∉ cs) →
    ∃ bs', (putF f w fs).map (·.1) = (putG f dw gs).map (·.1) ∧ RfA K mg r ((putF f w fs).map (·.2)) ((putG f dw gs).map (·.2)) bs' ∧ bs'.Nodup ∧ ∀ a, a ∈ bs' → a ∈ bs ∨ a ∈ cs
  | [], [], _, _, h, nb, dj => by
    refine ⟨cs ++ [], rfl, .cons hw .nil, by rw [List.append_nil]; exact nc, fun a ha => ?_⟩
    rw [List.append_nil] at ha
    exact .inr ha
  | [], _ :: _, _, e, _, _, _ => by cases e
  | _ :: _, [], _, e, _, _, _ => by cases e
  | (g, v) :: fs, (g', d) :: gs, bs, e, ha, nb, dj => by
    rw [List.map_cons, List.map_cons] at e
    injection e with e1 e2
    have e1 : g = g' := e1
    subst e1
    rw [List.map_cons, List.map_cons] at ha
    cases ha with
    | @cons _ _ _ _ as bs h1 t =>
      have na := List.nodup_append.mp nb
      by_cases hg : g = f
      · have ep : putG f dw ((g, d) :: gs) = (g, dw) :: gs := if_pos hg
        have eq : putF f w ((g, v) :: fs) = (g, w) :: fs := if_pos hg
        rw [ep, eq]
        refine ⟨cs ++ bs, by rw [List.map_cons, List.map_cons, e2], .cons hw t, List.nodup_append.mpr ⟨nc, na.2.1, fun a ha b hb h => dj b (List.mem_append_right _ hb) (h ▸ ha)⟩, fun a ha => ?_⟩
        rcases List.mem_append.mp ha with h | h
        · exact .inr h
        · exact .inl (List.mem_append_right _ h)
      · have ep : putG f dw ((g, d) :: gs) = (g, d) :: putG f dw gs := if_neg hg
        have eq : putF f w ((g, v) :: fs) = (g, v) :: putF f w fs := if_neg hg
        rw [ep, eq]
        obtain ⟨bs', k1, k2, k3, k4⟩ := RfA.put hw nc e2 t na.2.1 fun a ha => dj a (List.mem_append_right _ ha)
        refine ⟨as ++ bs', by rw [List.map_cons, List.map_cons, k1], .cons h1 k2, List.nodup_append.mpr ⟨na.1, k3, fun a ha b hb h => ?_⟩, fun a ha => ?_⟩
        · rcases k4 b hb with h' | h'
          · exact na.2.2 a ha b h' h
          · exact dj a (List.mem_append_left _ ha) (h ▸ h')
        · rcases List.mem_append.mp ha with h | h
          · exact .inl (List.mem_append_left _ h)
          · rcases k4 a h with h' | h'
            · exact .inl (List.mem_append_right _ h')
            · exact .inr h'
end
def jn (G J : Hp) : Hp := fun b => match G b with
  | some o => some o
  | none => J b
theorem jn_l {G J : Hp} {b : Addr} (h : G b ≠ none) : jn G J b = G b := by
  unfold jn
  cases hg : G b with
  | none => exact absurd hg h
  | some o => rfl
theorem jn_r {G J : Hp} {b : Addr} (h : G b = none) : jn G J b = J b := by
  unfold jn
  rw [h]
theorem jn_or {G J : Hp} {b : Addr} (h : jn G J b ≠ none) : G b ≠ none ∨ J b ≠ none := by
  cases hg : G b with
  | none => exact .inr (by rw [jn_r hg] at h; exact h)
  | some o => exact .inl (by intro z; cases z)
/-- what an attribute asks of a class -/
def ClF (K : PySem.W.Frag) (mg : Str → Option Value) (c f : Str) : Prop := ∀ C, mg c = some (.ref C) → Cls K C ∧ NoAttr K C f
section
variable {X : Cx} {W : WX} {o value : Expr} {i : Nat} {c f : Str} {pos pos' apos cpos fpos : Pos} {fo fe : Ev → Res PyData}
theorem fld_rp {K : PySem.W.Frag} {mg : Str → Option Value} {H : Hp} {v : V} {d d2 : PyData} (h : Rp K mg H v d) (e : fldD c f d = some d2) : ∃ a C dx fs w, v = .ref a ∧ H a = some (.ins C dx fs) ∧ mg c = some (.ref C) ∧ fs.lookup f = some w ∧ Rp K mg H w d2 := by
  cases h with
  | @ins a C dx fs c' gs hp hm hn hr =>
    have e2 : (if c' = c then lkD f (gs.map enc) else none) = some d2 := e
    by_cases hc : c' = c
    · rw [if_pos hc] at e2
      subst hc
      obtain ⟨w, h1, h2⟩ := lk_fld hn hr e2
      exact ⟨a, C, dx, fs, w, rfl, hp, hm, h1, h2⟩
    · rw [if_neg hc] at e2
      cases e2
  | non => cases e
  | bl _ => cases e
  | int _ => cases e
  | str _ => cases e
  | lst _ _ => cases e
  | tup _ _ => cases e
  | scr _ => cases e
theorem cb_fld (c : Str) (h : ClF X.K X.mg c f) (ha : CB X W o fo) (hb : attributeBase o f X.env (eval o X.env) = eval o X.env := by rfl) : CB X W (.Attribute o f pos) (b1 fo fun d => ofO (fldD c f d)) := (pe_fld ha hb).imp fun σ H Q q => by
  obtain ⟨e, lk, F, R, s, q⟩ := q
  refine ⟨e, lk, F, R, s, resOk.bind q fun d v H1 F1 f1 g1 s1 p1 q1 => ?_⟩
  cases hf : fldD c f d with
  | none => rw [hf] at q1; exact q1.elim
  | some d2 =>
    rw [hf] at q1
    obtain ⟨a, C, dx, fs, w, rfl, hp, hm, hl, hr⟩ := fld_rp p1 hf
    obtain ⟨h1, h2⟩ := h C hm
    exact ⟨a, C, dx, fs, w, rfl, hp, h1, h2, hl, q1.fin s1 hr⟩
def onRg (i : Nat) (e : Ev) (c : Str) (g : Slot → List (PyData × PyData) → Out) : Out := match e[i]? with
  | some z => (match rgOf z with
    | some (.dict ((.none, .str c') :: kvs)) => if c' = c then g z kvs else .no
    | _ => .no)
  | none => .no
theorem onRg_ok {K : PySem.W.Frag} {mg : Str → Option Value} {lk : Lk} {F : Hp} {R : Ix → Hp} {D : Ends} {e : Ev} {g : Slot → List (PyData × PyData) → Out} (q : fin K mg W lk F R D (onRg i e c g)) : ∃ z kvs, e[i]? = some z ∧ rgOf z = some (.dict ((.none, .str c) :: kvs)) ∧ fin K mg W lk F R D (g z kvs) := by
  unfold onRg at q
  cases he : e[i]? with
  | none => rw [he] at q; exact q.elim
  | some z =>
    rw [he] at q
    dsimp only at q
    split at q
    · rename_i c' kvs hz
      by_cases hc : c' = c
      · rw [if_pos hc] at q
        subst hc
        exact ⟨z, kvs, rfl, hz, q⟩
      · rw [if_neg hc] at q
        exact q.elim
    · exact q.elim
/-- x.f = value -/
def sFSet (i : Nat) (c f : Str) (fe : Ev → Res PyData) : SS := fun e => thn (fe e) e fun y => onRg i e c fun z kvs => if kvs.length ≤ 900 then .nx (e.set i (rgTo z (.dict ((.none, .str c) :: putD f y kvs)))) else .no
theorem own_ins {K : PySem.W.Frag} {mg : Str → Option Value} {G : Hp} {v : V} {kvs : List (PyData × PyData)} (h : Own K mg G v (.dict ((.none, .str c) :: kvs))) : ∃ (a C dx : Addr) (fs : List (Str × V)) (gs : List (Str × PyData)) (as : List Addr), v = .ref a ∧ kvs = gs.map enc ∧ G a = some (.ins C dx fs) ∧ mg c = some (.ref C) ∧ fs.map (·.1) = gs.map (·.1) ∧ (a :: as).Nodup ∧ RfA K mg G (fs.map (·.2)) (gs.map (·.2)) as := by
  obtain ⟨as, nd, h⟩ := h
  cases h with
  | flat hf _ => cases hf
  | @ins a C dx fs c' gs as hp hm hn hr => exact ⟨a, C, dx, fs, gs, as, rfl, rfl, hp, hm, hn, nd, hr⟩
theorem cs_fset (c : Str) (h : ClF X.K X.mg c f) (ho : PE X o (tVar i)) (hv : CG X W value fe) (hs : swapsWith value (some (.Attribute o f pos')) pos.line X.env = pure false := by rfl) : CS X W (.Assign [.Attribute o f pos'] value pos) (sFSet i c f fe) := (ps_fld ho hv hs).imp fun D σ H q => by
  obtain ⟨e, lk, F, R, s, q⟩ := q
  refine ⟨e, lk, F, R, s, fin.bind q fun y v H1 F1 f1 g1 s1 p1 q1 => ?_⟩
  obtain ⟨J, hJ, hn, j1, j2, j3⟩ := p1
  obtain ⟨z, kvs, he, hz, q2⟩ := onRg_ok q1
  obtain ⟨u, hu, hown, upd1⟩ := s1.getR he hz
  obtain ⟨a, C, dx, fs, gs, as, rfl, rfl, hp, hm, hnm, nd, hr⟩ := own_ins hown
  obtain ⟨h1, h2⟩ := h C hm
  have hH : H1 a = some (.ins C dx fs) := s1.rh (.sl i) _ _ hp
  by_cases hl : (gs.map enc).length ≤ 900
  · rw [if_pos hl] at q2
    have hl2 : fs.length < 1000 := by
      have : fs.length = gs.length := by rw [← List.length_map (f := (·.1)), hnm, List.length_map]
      rw [List.length_map] at hl
      omega
    refine ⟨.ref a, hu, a, C, dx, fs, rfl, hH, h1, h2, hl2, ?_⟩
    rw [putD_enc] at q2
    have nd2 := List.nodup_cons.mp nd
    have ga : R (.sl i) a ≠ none := by rw [hp]; intro z; cases z
    have dj : ∀ b, b ∈ j1 → R (.sl i) b = none := fun b hb => (hn b (j3.has b hb)).2 _
    have fr1 : ∀ b, b ∈ as → upd (jn (R (.sl i)) J) a (.ins C dx (putF f v fs)) b = R (.sl i) b := fun b hb => by
      have hne : b ≠ a := fun h => nd2.1 (h ▸ hb)
      rw [upd_ne hne, jn_l (hr.has b hb)]
    have fr2 : ∀ b, b ∈ j1 → upd (jn (R (.sl i)) J) a (.ins C dx (putF f v fs)) b = J b := fun b hb => by
      have hne : b ≠ a := fun h => ga (h ▸ dj b hb)
      rw [upd_ne hne, jn_r (dj b hb)]
    obtain ⟨bs', k1, k2, k3, k4⟩ := RfA.put (f := f) (j3.frame fr2) j2 hnm (hr.frame fr1) nd2.2 fun b hb hc => hr.has b hb (dj b hc)
    refine q2 σ _ F1 _ (Same.refl _) KeepR.rgS (upd1 (upd (jn (R (.sl i)) J) a (.ins C dx (putF f v fs))) _ _ ⟨a :: bs', List.nodup_cons.mpr ⟨fun hb => ?_, k3⟩, .ins upd_same hm k1 k2⟩ (fun b u q => ?_) (fun b u q1 q => ?_) fun b q => ?_)
    · rcases k4 a hb with h | h
      · exact nd2.1 h
      · exact ga (dj a h)
    · by_cases hb : b = a
      · subst hb
        rw [upd_same] at q ⊢
        exact q
      · rw [upd_ne hb] at q ⊢
        cases hg : R (.sl i) b with
        | none => rw [jn_r hg] at q; exact hJ _ _ q
        | some w =>
          rw [jn_l (by rw [hg]; intro z; cases z), hg] at q
          cases q
          exact s1.rh (.sl i) _ _ hg
    · have hb : b ≠ a := fun h => ga (h ▸ q1)
      rw [upd_ne hb]
      exact q
    · by_cases hb : b = a
      · exact .inl (hb ▸ ga)
      · rw [upd_ne hb] at q
        rcases jn_or q with h | h
        · exact .inl h
        · cases hg : R (.sl i) b with
          | some w => exact .inl (by intro z; cases z)
          | none => exact .inr (hn b h)
  · rw [if_neg hl] at q2
    exact q2.elim
end
end VL
end
section
set_option Elab.async false
set_option linter.all false
set_option maxRecDepth 100000
set_option autoImplicit false
set_option maxHeartbeats 4000000
/-! The value layer: a field's list grows; methods and constructors; isinstance of own classes. -/
namespace VL
open PySem PySem.Spec PyProof.Rows L2
section
variable {X : Cx} {W : WX} {o ex : Expr} {i : Nat} {f : Str} {pos apos cpos fpos : Pos} {fe : Ev → Res PyData}
/-- x.f.append(e) -/
def sFApp (i : Nat) (c f : Str) (fe : Ev → Res PyData) : SS := fun e => onRg i e c fun z kvs => match lkD f kvs with
  | some (.list ds) => thn (fe e) e fun y => if small (ds.length + 1) then .nx (e.set i (rgTo z (.dict ((.none, .str c) :: putD f (.list (ds ++ [y])) kvs)))) else .no
  | _ => .no
theorem cs_fapp (c : Str) (h : ClF X.K X.mg c f) (ho : PE X o (tVar i)) (he : CG X W ex fe) (hb : attributeBase o f X.env (eval o X.env) = eval o X.env := by rfl) (hbase : attributeBase (.Attribute o f fpos) "append" X.env (eval (.Attribute o f fpos) X.env) = eval (.Attribute o f fpos) X.env := by rfl)
    (hfew : ((backTo cpos (starEach (ex :: []) X.env)).all (fun x => !x.1) && (backToKw cpos (keywordEach [] X.env)).all (fun x => x.1.isSome)
      && decide ((ex :: []).length + ([] : List Keyword).length + (if ([] : List Keyword).isEmpty then 0 else 1) < 30)) = true := by rfl)
    (hline : (apos.endLine == cpos.line) = true := by rfl) (hs : starEach (ex :: []) X.env = (false, eval ex X.env) :: starEach [] X.env := by rfl) (hplain : (backTo cpos (starEach [] X.env)).any (·.1) = false := by rfl)
    (hsw : swapsWith (.Call (.Attribute (.Attribute o f fpos) "append" apos) [ex] [] cpos) none pos.line X.env = pure false := by rfl) :
    CS X W (.Expr (.Call (.Attribute (.Attribute o f fpos) "append" apos) [ex] [] cpos) pos) (sFApp i c f fe) :=
  (ps_expr (pe_bm PySem.F.plainAttrs_list PySem.F.slot_list_append PySem.F.type_list_append mt_append (pe_fld ho hb) (pa_cons he pa_nil hs) hbase hfew hline hs hplain) hsw).imp fun D σ H q => by
  obtain ⟨e, lk, F, R, s, q⟩ := q
  obtain ⟨z, kvs, he, hz, q⟩ := onRg_ok q
  obtain ⟨u, hu, hown, _⟩ := s.getR he hz
  obtain ⟨a, C, dx, fs, gs, as, rfl, rfl, hp, hm, hnm, nd, hr⟩ := own_ins hown
  obtain ⟨h1, h2⟩ := h C hm
  cases hl : lkD f (gs.map enc) with
  | none => rw [hl] at q; exact q.elim
  | some dl =>
    rw [hl] at q
    obtain ⟨w, hw, _⟩ := lk_fld hnm hr.rp hl
    obtain ⟨dw, b1, bw, b2, e1, e2, hrw, put⟩ := RfA.fmod hnm hr hw
    rw [hl] at e1
    cases e1
    cases dl with
    | list ds =>
      dsimp only at q
      cases hrw with
      | flat hf _ => cases hf
      | @lst p xs _ cs hpp hxs =>
        refine ⟨.ref a, hu, a, C, dx, fs, .ref p, rfl, s.rh (.sl i) _ _ hp, h1, h2, hw, .inl ⟨rfl, _, SqL.of (s.rh (.sl i) _ _ hpp)⟩, e, lk, F, R, s, fin.bind q fun y v H1 F1 f1 g1 s1 p1 q1 => ?_⟩
        obtain ⟨J, hJ, hn, j1, j2, j3⟩ := p1
        obtain ⟨u', hu', _, upd1⟩ := s1.getR he hz
        rw [hu] at hu'
        cases hu'
        by_cases hsm : small (ds.length + 1) = true
        · rw [if_pos hsm, putD_enc] at q1
          refine ⟨p, xs, v, rfl, rfl, s1.rh (.sl i) _ _ hpp, by rw [hxs.rp.len]; exact small_lt hsm, ?_⟩
          subst e2
          have gp : R (.sl i) p ≠ none := by rw [hpp]; intro z; cases z
          have dj : ∀ b, b ∈ j1 → R (.sl i) b = none := fun b hb => (hn b (j3.has b hb)).2 _
          have pm : ((a :: (b1 ++ ((p :: cs) ++ b2))) ++ j1).Perm (a :: (b1 ++ ((p :: (cs ++ j1)) ++ b2))) := by
            refine List.Perm.cons _ ?_
            show ((b1 ++ ((p :: cs) ++ b2)) ++ j1).Perm _
            rw [List.append_assoc]
            refine List.Perm.append_left _ ?_
            show (((p :: cs) ++ b2) ++ j1).Perm (((p :: cs) ++ j1) ++ b2)
            rw [List.append_assoc, List.append_assoc]
            exact List.Perm.append_left _ List.perm_append_comm
          have has : ∀ b, b ∈ a :: (b1 ++ ((p :: cs) ++ b2)) → R (.sl i) b ≠ none := fun b hb => by
            rcases List.mem_cons.mp hb with rfl | hb
            · rw [hp]; intro z; cases z
            · exact hr.has b hb
          have nd2 : (a :: (b1 ++ ((p :: (cs ++ j1)) ++ b2))).Nodup := pm.nodup_iff.mp (List.nodup_append.mpr ⟨nd, j2, fun x hx y hy h => has x hx (dj x (h ▸ hy))⟩)
          have ndo : p ∉ b1 ++ b2 ∧ p ∉ cs := by
            have n1 := (List.nodup_cons.mp nd).2
            have n2 : ((p :: cs) ++ (b1 ++ b2)).Nodup := by
              refine (List.Perm.nodup_iff ?_).mp n1
              rw [← List.append_assoc, ← List.append_assoc]
              exact List.Perm.append_right _ List.perm_append_comm
            have n3 : p ∉ cs ++ (b1 ++ b2) := (List.nodup_cons.mp n2).1
            exact ⟨fun h => n3 (List.mem_append_right _ h), fun h => n3 (List.mem_append_left _ h)⟩
          have hap : a ≠ p := fun h => (List.nodup_cons.mp nd).1 (by rw [h]; simp)
          have fr : ∀ b, b ∈ a :: (b1 ++ ((p :: cs) ++ b2)) → b ≠ p → upd (jn (R (.sl i)) J) p (.lst (xs ++ [v])) b = R (.sl i) b := fun b hb hne => by rw [upd_ne hne, jn_l (has b hb)]
          have fj : ∀ b, b ∈ j1 → upd (jn (R (.sl i)) J) p (.lst (xs ++ [v])) b = J b := fun b hb => by rw [upd_ne (fun h : b = p => gp (by rw [← h]; exact dj b hb)), jn_r (dj b hb)]
          obtain ⟨k1, k2⟩ := put (upd (jn (R (.sl i)) J) p (.lst (xs ++ [v]))) (.list (ds ++ [y])) (p :: (cs ++ j1))
            (.lst upd_same ((hxs.frame fun b hb => fr b (by simp [hb]) fun h => ndo.2 (h ▸ hb)).snoc (j3.frame fj)))
            (fun b hb => fr b (by rcases List.mem_append.mp hb with h | h <;> simp [h]) fun h => ndo.1 (h ▸ hb))
          refine q1 σ _ F1 _ (Same.refl _) KeepR.rgS (upd1 (upd (jn (R (.sl i)) J) p (.lst (xs ++ [v]))) _ _ ⟨_, nd2, .ins (by rw [fr a List.mem_cons_self hap]; exact hp) hm k1 k2⟩ (fun b u q => ?_) (fun b u q1 q => ?_) fun b q => ?_)
          · by_cases hb : b = p
            · subst hb
              rw [upd_same] at q ⊢
              exact q
            · rw [upd_ne hb] at q ⊢
              cases hg : R (.sl i) b with
              | none => rw [jn_r hg] at q; exact hJ _ _ q
              | some w =>
                rw [jn_l (by rw [hg]; intro z; cases z), hg] at q
                cases q
                exact s1.rh (.sl i) _ _ hg
          · have hb : b ≠ p := fun h => gp (h ▸ q1)
            rw [upd_ne hb]
            exact q
          · by_cases hb : b = p
            · exact .inl (hb ▸ gp)
            · rw [upd_ne hb] at q
              rcases jn_or q with h | h
              · exact .inl h
              · exact .inr (hn b h)
        · rw [if_neg hsm] at q1
          exact q1.elim
    | none => exact q.elim
    | bool _ => exact q.elim
    | int _ => exact q.elim
    | str _ => exact q.elim
    | tuple _ => exact q.elim
    | dict _ => exact q.elim
end
/-! ### methods -/
inductive MF where
  | ok (self : PyData) (r : PyData)
  | no
def finM : Out → MF
  | .nx e => (match (e[0]? : Option Slot) with
    | some (.sf d) => .ok d .none
    | _ => .no)
  | .rs e r => if flatD r then (match (e[0]? : Option Slot) with
    | some (.sf d) => .ok d r
    | _ => .no) else .no
  | _ => .no
def runM (b : SS) (n : Nat) (d : PyData) (ds : List PyData) : MF := finM (b (.sf d :: ds.map .fz ++ List.replicate (n - (ds.length + 1)) .no))
def okM (K : PySem.W.Frag) (mg : Str → Option Value) (x : Addr) (G0 H : Hp) (Q : VK) : MF → Prop
  | .ok d r => ∀ v H' G', (∀ b o, G0 b = none → H b = some o → H' b = some o) → Same G' H' → (∀ a, G' a ≠ none → G0 a ≠ none ∨ H a = none) → Own K mg G' (.ref x) d → flatD r = true → Rp K mg H' v r → Q v H'
  | .no => False
def spM (K : PySem.W.Frag) (mg : Str → Option Value) (np : Nat) (g : PyData → List PyData → MF) : Sp := fun vs H Q _ => ∃ x us G0 F d0 ds, vs = .ref x :: us ∧ Same G0 H ∧ Own K mg G0 (.ref x) d0 ∧ Same F H ∧ (∀ a, G0 a ≠ none → F a = none) ∧ RpA K mg F us ds ∧ ds.length = np ∧
  okM K mg x G0 H Q (g d0 ds)
def baseM (F G0 H : Hp) : Ix → Hp
  | .base => fun a => if (F a).isSome = true ∨ (G0 a).isSome = true then none else H a
  | .sl 0 => G0
  | _ => fun _ => none
theorem baseM_at {F G0 H : Hp} {a : Addr} (hf : F a = none) (hg : G0 a = none) : baseM F G0 H .base a = H a := by
  show (if (F a).isSome = true ∨ (G0 a).isSome = true then none else H a) = H a
  rw [hf, hg]
  rfl
theorem baseM_ne {F G0 H : Hp} {j : Ix} {a : Addr} (q : baseM F G0 H j a ≠ none) : (j = .base ∧ F a = none ∧ G0 a = none ∧ H a ≠ none) ∨ (j = .sl 0 ∧ G0 a ≠ none) := by
  cases j with
  | sl i =>
    cases i with
    | zero => exact .inr ⟨rfl, q⟩
    | succ i => exact absurd rfl q
  | hid D => exact absurd rfl q
  | base =>
    have q' : (if (F a).isSome = true ∨ (G0 a).isSome = true then none else H a) ≠ none := q
    cases hx : F a with
    | some o =>
      rw [hx] at q'
      exact absurd (if_pos (.inl rfl)) q'
    | none =>
      cases hy : G0 a with
      | some o =>
        rw [hy] at q'
        exact absurd (if_pos (.inr rfl)) q'
      | none =>
        rw [hx, hy] at q'
        exact .inl ⟨rfl, rfl, rfl, q'⟩
section
variable {P : Program} {w : World} {K : PySem.W.Frag} {mg : Str → Option Value} {base : Heap}
theorem fn_meth {x qual : Str} {st : Stmt} {f : Addr} {fd : FuncData} {N ps : List Str} {k np n : Nat} {g : PyData → List PyData → MF} (b : SS) (Fn : Fun K x qual st f fd) (S : FnScope N ps (defScope st)) (h1 : ps.length = np + 1) (h2 : N.length = n) (h3 : np + 1 ≤ n) (hg : g = runM b n)
    (hbody : ∀ (cdv : Value) (A : Around) (outer : List Env) (s : Shared) (H : Hp) (E : XK), Room k (A.deeper (envOfC qual (defScope st) s.heap.objs.size f cdv)) →
      CSs (cxOf (L2.CX P w) P w K mg base N qual (defScope st) f cdv A outer s H E) (fun cls d _ H => E cls d H) (defBody st) b) :
    FnOk P w K mg base (L2.CX P w) (k + 1) f fd ps (spM K mg np g) := by
  subst h2 hg
  refine Fn.okX S (fun vs H Q E h => ?_) (fun cdv A outer s H vs Q E hr h => ?_)
  · obtain ⟨x, us, G0, F, d0, ds, rfl, _, _, _, _, hr, hl, _⟩ := h
    rw [List.length_cons, hr.len, hl, h1]
  · obtain ⟨x, us, G0, F, d0, ds, rfl, hG, hO, hF, hd, hR, hl, q⟩ := h
    refine ⟨_, hbody cdv A outer s H E hr, .sf d0 :: ds.map .fz ++ List.replicate (N.length - (ds.length + 1)) .no, fun i => if i = 0 then some (x, []) else none, F, baseM F G0 H, ?_, ?_⟩
    · refine ⟨?_, hF, fun j a o q => ?_, fun j k a hn q => ?_, fun j a q => ?_, fun D a q => ?_, fun i sl q => ?_⟩
      · unfold L2.start
        simp [hR.len]
      · rcases baseM_ne (F := F) (G0 := G0) (H := H) (j := j) (a := a) (by rw [q]; intro h; cases h) with ⟨rfl, hf, hg, _⟩ | ⟨rfl, _⟩
        · rw [baseM_at hf hg] at q
          exact q
        · exact hG _ _ q
      · rcases baseM_ne q with ⟨rfl, hf, hg, _⟩ | ⟨rfl, hg⟩
        · cases k with
          | base => exact absurd rfl hn
          | sl i =>
            cases i with
            | zero => exact hg
            | succ _ => rfl
          | hid _ => rfl
        · cases k with
          | base =>
            cases hx : baseM F G0 H .base a with
            | none => rfl
            | some u =>
              rcases baseM_ne (F := F) (G0 := G0) (H := H) (j := .base) (a := a) (by rw [hx]; intro h; cases h) with ⟨_, _, hg', _⟩ | ⟨h, _⟩
              · exact absurd hg' hg
              · cases h
          | sl i =>
            cases i with
            | zero => exact absurd rfl hn
            | succ _ => rfl
          | hid _ => rfl
      · rcases baseM_ne q with ⟨rfl, hf, _, _⟩ | ⟨rfl, hg⟩
        · exact hf
        · exact hd a hg
      · rcases baseM_ne q with ⟨h, _⟩ | ⟨h, _⟩ <;> cases h
      · unfold L2.start
        cases i with
        | zero =>
          simp at q
          subst q
          exact ⟨x, [], rfl, by simp, hO⟩
        | succ i =>
          simp only [List.cons_append, List.getElem?_cons_succ] at q
          by_cases hi : i < ds.length
          · rw [List.getElem?_append_left (by rw [List.length_map]; exact hi), List.getElem?_map, List.getElem?_eq_getElem hi] at q
            cases q
            obtain ⟨v, hv, hr⟩ := hR.get (List.getElem?_eq_getElem hi)
            refine ⟨v, ?_, hr⟩
            have hi' : i < us.length := by rw [hR.len]; exact hi
            simp only [List.map_cons, List.cons_append, List.getElem?_cons_succ]
            rw [List.getElem?_append_left (by rw [List.length_map]; exact hi'), List.getElem?_map, hv]
            rfl
          · rw [List.getElem?_append_right (by rw [List.length_map]; omega)] at q
            have := List.mem_of_getElem? q
            rw [List.mem_replicate] at this
            rw [this.2]
            trivial
    · have conv : ∀ {H' F' : Hp} {R' : Ix → Hp} {σ' : Sg} {e' : Ev} {d : PyData}, Same F F' → KeepR (baseM F G0 H) R' → SR K mg (fun i => if i = 0 then some (x, []) else none) F' R' σ' H' e' → e'[0]? = some (.sf d) →
          (∀ b o, G0 b = none → H b = some o → H' b = some o) ∧ Same (R' (.sl 0)) H' ∧ (∀ a, R' (.sl 0) a ≠ none → G0 a ≠ none ∨ H a = none) ∧ Own K mg (R' (.sl 0)) (.ref x) d := by
        intro H' F' R' σ' e' d f k s h0
        have k1 := k.1
        refine ⟨fun a o hg q => ?_, s.rh _, fun a q => ?_, ?_⟩
        · cases hx : F a with
          | some u =>
            have := hF _ _ hx
            rw [q] at this
            cases this
            exact s.fh _ _ (f _ _ hx)
          | none =>
            refine s.rh .base _ _ ?_
            rw [k1, baseM_at hx hg]
            exact q
        · cases hg : G0 a with
          | some o => exact .inl (by intro z; cases z)
          | none =>
            refine .inr ?_
            cases hh : H a with
            | none => rfl
            | some o =>
              have n1 := s.rf (.sl 0) a q
              have hf : F a = none := f.free n1
              have n2 := s.rr (.sl 0) .base a (by intro h; cases h) q
              rw [k1, baseM_at hf hg, hh] at n2
              cases n2
        · obtain ⟨p, vs, hlk, _, ho⟩ := s.at_ 0 _ h0
          have hlk : (some (x, ([] : List V))) = some (p, vs) := hlk
          cases hlk
          exact ho
      unfold runM at q
      cases ho : b (.sf d0 :: ds.map .fz ++ List.replicate (N.length - (ds.length + 1)) .no) with
      | nx e' =>
        rw [ho] at q
        unfold finM at q
        dsimp only at q
        split at q
        · rename_i d h0
          intro σ' H' F' R' f k s
          obtain ⟨c1, c2, c3, c4⟩ := conv f k s h0
          exact q .non H' _ c1 c2 c3 c4 rfl .non
        · exact q.elim
      | rs e' r =>
        rw [ho] at q
        unfold finM at q
        dsimp only at q
        by_cases hfl : flatD r = true
        · rw [if_pos hfl] at q
          split at q
          · rename_i d h0
            intro v σ' H' F' R' f k s p
            obtain ⟨c1, c2, c3, c4⟩ := conv f k s h0
            exact q v H' _ c1 c2 c3 c4 hfl (p.flat hfl)
          · exact q.elim
        · rw [if_neg hfl] at q
          exact q.elim
      | rt d => rw [ho] at q; exact q.elim
      | rl es => rw [ho] at q; exact q.elim
      | rg d => rw [ho] at q; exact q.elim
      | ex c e' => rw [ho] at q; exact q.elim
      | bk e' => rw [ho] at q; exact q.elim
      | ct e' => rw [ho] at q; exact q.elim
      | no => rw [ho] at q; exact q.elim
structure CalleeC (P : Program) (w : World) (K : PySem.W.Frag) (mg : Str → Option Value) (base : Heap) (k : Nat) (c : Str) (np : Nat) (g : PyData → List PyData → MF) : Prop where
  ex : ∃ C f fd ps, ps.length = np + 1 ∧ mg c = some (.ref C) ∧ Mk K C f ∧ Binds K fd ps [] ∧ FnOk P w K mg base (L2.CX P w) k f fd ps (spM K mg np g)
theorem CalleeC.mono {k k' np : Nat} {c : Str} {g : PyData → List PyData → MF} (h : CalleeC P w K mg base k c np g) (hk : k ≤ k') : CalleeC P w K mg base k' c np g := by
  obtain ⟨C, f, fd, ps, a, b, c, d, e⟩ := h.ex
  exact ⟨C, f, fd, ps, a, b, c, d, e.mono hk⟩
end
section
variable {X : Cx} {W : WX} {x : Str} {p pos : Pos} {ex : Expr} {es : List Expr} {fr : Ev → Res (List PyData)} {g : PyData → List PyData → MF} {k np : Nat}
def callC (c : Str) (g : PyData → List PyData → MF) (np : Nat) (ds : List PyData) : Res PyData := if ds.length = np then (match g (insD c []) ds with
  | .ok d .none => .ok d
  | _ => .no) else .no
theorem pass_no {P : Program} {w : World} {X : Cx} : Passes (L2.CX P w) X (fun _ _ _ => False) := fun pins σ H s e s' _ h => by
  obtain ⟨_, _, _, _, _, _, _, _, _, _, _, _, z⟩ := h
  exact z.elim
theorem cg_make (c : CalleeC X.prog X.w X.K X.mg X.base k x np g) (hr : Room (k + 1) X.A) (hg : Gl X x) (ha : CAB X W (ex :: es) fr) (hdb : (x == ("__debug__" : Str)) = false := by decide) (he : starEach (ex :: es) X.env = (false, eval ex X.env) :: starEach es X.env := by rfl)
    (hpl : (backTo pos (starEach es X.env)).any (·.1) = false := by rfl) : CG X W (.Call (.Name x p) (ex :: es) [] pos) (b1 fr (callC x g np)) := by
  obtain ⟨C, f, fd, ps, _, hm, hM, hb, Fo⟩ := c.ex
  refine (pe_make hM Fo hr hg hm hb .nil pass_no ha hdb he hpl).imp fun σ H Q q => ?_
  obtain ⟨e, lk, F0, R, s, q⟩ := q
  refine ⟨e, lk, F0, R, s, resOk.bind q fun ds vs H1 F1 f1 g1 s1 p1 q1 => ?_⟩
  intro a dx na ndx nad
  unfold callC at q1
  by_cases hl : ds.length = np
  · rw [if_pos hl] at q1
    have hs : Same H1 (upd (upd H1 dx (.own a)) a (.ins C dx [])) := (same_upd ndx).trans (same_upd (by rw [upd_ne (Ne.symm nad)]; exact na))
    refine ⟨a, vs ++ [], one a (.ins C dx []), H1, insD x [], ds, rfl, fun b o q => ?_, ⟨[a], by simp, .ins one_same hm rfl .nil⟩, hs, fun b q => by rw [one_ne q]; exact na, by rw [List.append_nil]; exact RpA.of_paired p1, hl, ?_⟩
    · obtain ⟨rfl, rfl⟩ := one_at q
      exact upd_same
    · cases hgd : g (insD x []) ds with
      | no => rw [hgd] at q1; exact q1.elim
      | ok d r =>
        rw [hgd] at q1
        cases r with
        | none =>
          intro v H' G' k1 k2 k3 k4 k5 k6
          cases k6
          refine ⟨rfl, ?_⟩
          have sH : Same H1 H' := fun b o q => by
            have hb : b ≠ a := fun h => by rw [h, na] at q; cases q
            refine k1 b o ?_ (hs _ _ q)
            cases h : one a (HO.ins C dx []) b with
            | none => rfl
            | some u => exact absurd (one_at h).1 hb
          refine q1 (.ref a) H' F1 (Same.refl _) sH (s1.heap sH) ⟨G', k2, fun b q => ?_, k4⟩
          have hn : H1 b = none := by
            rcases k3 b q with h | h
            · rw [one_ne h]; exact na
            · exact hs.free h
          exact ⟨s1.newF hn, s1.newR hn⟩
        | bool _ => exact q1.elim
        | int _ => exact q1.elim
        | str _ => exact q1.elim
        | list _ => exact q1.elim
        | tuple _ => exact q1.elim
        | dict _ => exact q1.elim
  · rw [if_neg hl] at q1
    exact q1.elim
/-! ### isinstance of own classes -/
structure InC (K : PySem.W.Frag) (C : Addr) : Prop where
  cl : Cls K C
  ha : PySem.W.findIn K (.ref C) "__class__" = some (some (.builtin "object.__class__"))
  hn : PySem.W.specialIn K (.builtin "object.__class__") "__get__" = some (some (.builtin "getset_descriptor.__get__"))
  htk : PySem.W.takesIn K (.builtin "object.__class__") = some true
  hm : PySem.W.mroIn K C (.type "object") = some true
/-- what isinstance says: of an instance of c, asked for E -/
def KiC (K : PySem.W.Frag) (mg : Str → Option Value) (tab : List (Str × Bool)) (E : Str) : Prop := ∃ D, mg E = some (.ref D) ∧ ∀ c b C, tab.lookup c = some b → mg c = some (.ref C) → InC K C ∧ PySem.W.kitOne K (.ref C) (.ref D) = some b
def isC (tab : List (Str × Bool)) : PyData → Option PyData
  | .dict ((.none, .str c) :: _) => (tab.lookup c).map .bool
  | _ => none
theorem ce_isC {n : Str} {a : Expr} {fa : Ev → Res PyData} {p2 : Pos} (tab : List (Str × Bool)) (h : KiC X.K X.mg tab n) (hg : Gl X "isinstance") (hm : X.mg "isinstance" = none) (hgn : Gl X n) (ha : CB X W a fa) (hdb : (n == ("__debug__" : Str)) = false := by decide) (he : starEach [a, .Name n p2] X.env = (false, eval a X.env) :: starEach [.Name n p2] X.env := by rfl)
    (he2 : starEach [.Name n p2] X.env = (false, eval (.Name n p2) X.env) :: starEach [] X.env := by rfl) (hpl : (backTo pos (starEach [.Name n p2] X.env)).any (·.1) = false := by rfl) :
    CE X W (.Call (.Name "isinstance" p) [a, .Name n p2] [] pos) (b1 fa fun d => ofO (isC tab d)) := by
  obtain ⟨D, hD, hk⟩ := h
  refine (pe_callB call_isi hg hm (by decide +kernel) (pa_cons ha (pa_cons (pe_glob (v := V.ref D) hgn hD rfl hdb) pa_nil he2) he) (by decide) (by decide) he hpl).imp fun σ H Q q => ?_
  obtain ⟨e, lk, F, R, s, q⟩ := q
  refine ⟨e, lk, F, R, s, resOk.bind q fun d v H1 F1 f1 g1 s1 p1 q1 => ?_⟩
  cases p1 with
  | @ins a C dx fs c gs hp hmc hn hr =>
    have q1 : resOk X.K X.mg W lk F1 R σ H1 e (pE X.K X.mg) Q (ofO ((tab.lookup c).map .bool)) := q1
    cases hl : tab.lookup c with
    | none => rw [hl] at q1; exact q1.elim
    | some b =>
      rw [hl] at q1
      obtain ⟨i, k⟩ := hk c b C hl hmc
      exact ⟨_, _, _, _, b, rfl, .own D, .base (.ins hp i.cl i.ha i.hn i.htk i.hm), k, q1.fin s1 (.bl b)⟩
  | non => exact q1.elim
  | bl _ => exact q1.elim
  | int _ => exact q1.elim
  | str _ => exact q1.elim
  | lst _ _ => exact q1.elim
  | tup _ _ => exact q1.elim
  | scr _ => exact q1.elim
end
end VL
end
section
set_option Elab.async false
set_option linter.all false
set_option maxRecDepth 100000
set_option autoImplicit false
set_option maxHeartbeats 4000000
/-! max(xs, default=d) of a list of whole numbers: the loop of the built-in, walked for a list that may be empty. -/
namespace VL
open PySem PySem.Spec PyProof.Rows L2
section
variable {prog : Program} {w : World} {A : Around} {R : Result → Shared → Prop} {I : Addr} {fp wr : List Addr} {n : Nat} {P : Nat → Value → Prop} {St : Nat → Heap → Prop}
/-- what the list of the best one holds -/
def heldV : Option Value → Array Value
  | none => #[]
  | some v => #[v, v]
theorem max_default_loop (W : Walks prog w A.in1 I fp wr n P St) (bt : Nat → Nat → Bool) (hcmp : CmpOf prog w A.in1 .Gt P bt) (S : Addr) (hSf : S ∉ fp) (kd : Str × Value) : ∀ (k j : Nat) (s : Shared) (old : Option Value) (c : Nat), n - j = k → j ≤ n → St j s.heap →
    (∀ v, old = some v → 0 < j ∧ P (argBest bt (j - 1)) v) → (old = none → j = 0) → s.heap.get? S = some { cls := .type "list", dict := none, data := .seq (heldV old) c, slots := #[] } →
    (∀ v h' tk, (n = 0 → v = kd.2) → (0 < n → P (argBest bt (n - 1)) v) → (∀ b o, b ∉ wr → b ≠ S → s.heap.get? b = some o → h'.get? b = some o) → R (.ok (.ret v)) { s with heap := h', toks := tk }) →
    codeAny (model prog w) A (.builtin "max.loop" ⟨[.ref I, .none, .ref S], [kd]⟩) R s := by
  have hSw : S ∉ wr := fun h => hSf (W.sub _ h)
  have hname : (toString "max" ++ toString ".loop" : String) = "max.loop" := by decide
  obtain ⟨kn, d⟩ := kd
  intro k
  induction k with
  | zero =>
    intro j s old c hk hj hst hsome hnone hS hR
    have hin : j = n := by omega
    refine codeAny_builtin F.entry_max_loop ?_
    rw [Around.under_plainId F.plain_max_loop _]
    show wpAny _ A.in1 (seqItems? (.ref S) >>= _) _ _ s
    refine wpAny_bind (wpAny_seqItems hS rfl ?_)
    show wpAny _ A.in1 (tryCatch (pyNext (.ref I)) _ >>= _) _ _ s
    refine wpAny_bind (wpAny_tryCatch (W.done s _ _ (hin ▸ hst) fun h' tk hk' => ?_))
    have hS' := hk' S _ hSw hS
    cases old with
    | none =>
      have h0 := hnone rfl
      show wpAny _ A.in1 (rule _ >>= _) _ _ _
      refine wpAny_bind (wpAny_rule (wpAny_pure ?_))
      exact hR d _ tk (fun _ => rfl) (fun h => by omega) fun b o hbw _ e => hk' b o hbw e
    | some vb =>
      obtain ⟨h1, h2⟩ := hsome vb rfl
      show wpAny _ A.in1 (updateSeq S (fun _ => #[]) >>= _) _ _ _
      refine wpAny_bind (wpAny_updateSeq hS' rfl (hz := by show 2 ≤ sizeLine; decide) (wpAny_bind (wpAny_letGo (wpAny_pure ?_))))
      exact hR vb _ tk (fun h => by omega) (fun _ => by rw [← hin]; exact h2) fun b o hbw hbS e => (Heap.get?_update_other _ _ (Ne.symm hbS)).trans (hk' b o hbw e)
  | succ k ih =>
    intro j s old c hk hj hst hsome hnone hS hR
    have hlt : j < n := by omega
    refine codeAny_builtin F.entry_max_loop ?_
    rw [Around.under_plainId F.plain_max_loop _]
    show wpAny _ A.in1 (seqItems? (.ref S) >>= _) _ _ s
    refine wpAny_bind (wpAny_seqItems hS rfl ?_)
    show wpAny _ A.in1 (tryCatch (pyNext (.ref I)) _ >>= _) _ _ s
    refine wpAny_bind (wpAny_tryCatch (W.item j s _ _ hlt hst fun v h' tk hP hst' hk' => ?_))
    have hS' := hk' S _ hSw hS
    cases old with
    | none =>
      have h0 := hnone rfl
      subst h0
      show wpAny _ A.in1 (updateSeq S (fun _ => #[v, v]) >>= _) _ _ _
      refine wpAny_bind (wpAny_updateSeq hS' rfl ?_)
      rw [hname]
      refine wpAny_pure ⟨plainId_quiet F.plain_max_loop _, ih 1 _ (some v) _ (by omega) (by omega) (W.frame _ _ _ hst' fun b hbf o e => ?_) (fun x e => by cases e; exact ⟨by omega, hP⟩) (fun e => by cases e) (Heap.get?_update_self _ hS' rfl)
        fun v' h'' tk'' h1 h2 hk'' => ?_⟩
      · exact (Heap.get?_update_other _ _ (fun h : S = b => hSf (by rw [h]; exact hbf))).trans e
      · exact hR v' h'' tk'' h1 h2 fun b o hbw hbS e => hk'' b o hbw hbS ((Heap.get?_update_other _ _ (Ne.symm hbS)).trans (hk' b o hbw e))
    | some vb =>
      obtain ⟨hj0, hPb⟩ := hsome vb rfl
      obtain ⟨i, rfl⟩ : ∃ i, j = i + 1 := ⟨j - 1, by omega⟩
      rw [Nat.add_sub_cancel] at hPb
      show wpAny _ A.in1 (tryCatch (holding [v, v] (richCompare .Gt v vb >>= _)) _ >>= _) _ _ _
      refine wpAny_bind (wpAny_tryCatch (wpAny_holding (wpAny_bind (hcmp (i + 1) (argBest bt i) v vb _ _ _ hP hPb ?_))))
      refine wpAny_bind (wpAny_holding (wpAny_truthy_bool ?_))
      refine wpAny_bind (wpAny_letGo (wpAny_pure ?_))
      cases hb : bt (i + 1) (argBest bt i) with
      | true =>
        simp only [if_true]
        refine wpAny_bind (wpAny_updateSeq hS' rfl (hz := by show 2 ≤ sizeLine; decide) (wpAny_bind (wpAny_letGo ?_)))
        rw [hname]
        refine wpAny_pure ⟨plainId_quiet F.plain_max_loop _, ih (i + 2) _ (some v) _ (by omega) (by omega) (W.frame _ _ _ hst' fun b hbf o e => ?_) (fun x e => by cases e; exact ⟨by omega, by show P (argBest bt (i + 1)) v; simp only [argBest, hb, if_true]; exact hP⟩) (fun e => by cases e)
          (Heap.get?_update_self _ hS' rfl) fun v' h'' tk'' h1 h2 hk'' => ?_⟩
        · exact (Heap.get?_update_other _ _ (fun h : S = b => hSf (by rw [h]; exact hbf))).trans e
        · exact hR v' h'' tk'' h1 h2 fun b o hbw hbS e => hk'' b o hbw hbS ((Heap.get?_update_other _ _ (Ne.symm hbS)).trans (hk' b o hbw e))
      | false =>
        simp only [Bool.false_eq_true, if_false]
        refine wpAny_bind (wpAny_letGo ?_)
        rw [hname]
        refine wpAny_pure ⟨plainId_quiet F.plain_max_loop _, ih (i + 2) _ (some vb) c (by omega) (by omega) hst' (fun x e => by cases e; exact ⟨by omega, by show P (argBest bt (i + 1)) vb; simp only [argBest, hb, Bool.false_eq_true, if_false]; exact hPb⟩) (fun e => by cases e) hS' fun v' h'' tk'' h1 h2 hk'' => ?_⟩
        exact hR v' h'' tk'' h1 h2 fun b o hbw hbS e => hk'' b o hbw hbS (hk' b o hbw e)
end
theorem max_default_args (a v : Value) : argsOk "max" ⟨[a], [(Str.ofString "default", v)]⟩ := by unfold argsOk; kernel_rfl
section
variable {prog : Program} {w : World} {A : Around} {E : Value → Shared → Prop} {s : Shared} {l : Addr} {xs : Array (Int × Tok)} {d : Value} {Q : Value → Shared → Prop}
theorem max_default (hh : A.handled = none) (hl : s.heap.IsList l (intItems xs))
    (h : ∀ v h' tk, (xs.size = 0 → v = d) → (0 < xs.size → (intItems xs)[argBest (fun i j => decide (numAt xs i > numAt xs j)) (xs.size - 1)]? = some v) → (∀ b o, s.heap.get? b = some o → h'.get? b = some o) → Q v { s with heap := h', toks := tk }) :
    wpAny (model prog w) A (call (.builtin "max") [.ref l] [(Str.ofString "default", d)]) Q E s := by
  have hname : (toString "max" ++ toString ".loop" : String) = "max.loop" := by decide
  refine kmk_tree F.kind_max F.plain_max F.entry_max (max_default_args _ _) ?_
  show wpAny _ A.in1 (Builtin.Builtins.bindParams "max" ["key", "default"] 0 ⟨[], [(Str.ofString "default", d)]⟩ >>= _) _ _ s
  refine wpAny_bind (wpAny_of_eq (show Builtin.Builtins.bindParams "max" ["key", "default"] 0 ⟨[], [(Str.ofString "default", d)]⟩ = pure [none, some d] from rfl) ?_)
  refine wpAny_bind (wpAny_pure ?_)
  refine wpAny_bind (iter_intList hl fun s₂ e st hfp hlI => ?_)
  subst e
  refine wpAny_bind (wpAny_newObj_type ?_)
  have W := Walks.list (prog := prog) (w := w) (A := A.in1) hh s.heap.objs.size l hlI (intItems xs)
  generalize hs2 : s.heap.push { cls := .type "list_iterator", data := .fields #[.ref l, .int 0 0] } = h2 at *
  have hSf : h2.objs.size ∉ [s.heap.objs.size, l] := fun hm => Nat.lt_irrefl _ (hfp _ hm)
  rw [hname]
  refine wpAny_pure ⟨plainId_quiet F.plain_max_loop _, max_default_loop W (fun i j => decide (numAt xs i > numAt xs j)) (CmpOf.ints_gt (numAt xs) (fun _ _ => intItems_at)) h2.objs.size hSf (Str.ofString "default", d) _ 0 _ none _ rfl (Nat.zero_le _)
    (W.frame _ _ _ st fun b _ o e => Heap.get?_push_of_some _ e) (fun _ e => by cases e) (fun _ => rfl) (Heap.get?_push_size _ rfl) fun v h' tk h1 h2' hk => ?_⟩
  refine h v h' tk (by simpa [intItems] using h1) (by simpa [intItems] using h2') (old_kept (l := l) fun b o hb e => ?_)
  rw [hs2] at e
  exact hk b o hb (Nat.ne_of_lt (Heap.lt_size e)) (Heap.get?_push_of_some _ e)
theorem max_default_ints {its : List Value} {ns : List Int} (hh : A.handled = none) (hl : s.heap.IsList l its.toArray) (hi : IntsAre its ns)
    (h : ∀ v h' tk, (ns = [] → v = d) → (ns ≠ [] → ∃ M t, v = .int M t ∧ M ∈ ns ∧ ∀ a, a ∈ ns → a ≤ M) → (∀ b o, s.heap.get? b = some o → h'.get? b = some o) → Q v { s with heap := h', toks := tk }) :
    wpAny (model prog w) A (call (.builtin "max") [.ref l] [(Str.ofString "default", d)]) Q E s := by
  obtain ⟨xs, e⟩ := hi.allInts.items
  have hn : numsOf (intItems xs).toList = ns := by rw [← e]; exact hi.numsOf
  rw [nums_intItems] at hn
  subst hn
  rw [e] at hl
  refine max_default hh hl fun v h' tk h1 h2 hk => h v h' tk (fun h0 => h1 ?_) (fun h0 => ?_) hk
  · simpa using h0
  · have hsz : 0 < xs.size := by
      rcases Nat.eq_zero_or_pos xs.size with h | h
      · exact absurd (by simpa using h) h0
      · exact h
    obtain ⟨t, rfl⟩ := intItems_at (h2 hsz)
    obtain ⟨g1, g2⟩ := argBest_gt (numAt xs) (xs.size - 1)
    refine ⟨_, t, rfl, ?_, fun a ha => ?_⟩
    · rw [numAt_eq]; exact PySem.getD_mem (by rw [List.length_map, Array.length_toList]; omega)
    · obtain ⟨j, hj, rfl⟩ := mem_getD ha
      rw [List.length_map, Array.length_toList] at hj
      rw [← numAt_eq]; exact g2 j (by omega)
end
section
variable {X : Cx}
def rMaxDef (K : PySem.W.Frag) : List V → List V → Hp → VK → Prop := fun vs zs H Q => ∃ (a : Addr) (ns : List Int) (i : Int), vs = [V.ref a] ∧ zs = [V.int i] ∧ SqL K H a (ns.map V.int) ∧ ∀ m, (ns = [] → m = i) → (ns ≠ [] → m ∈ ns ∧ ∀ y, y ∈ ns → y ≤ m) → Q (.int m) H
theorem cr_maxDef (hc : X.calm = true) : CallRK X (.builtin "max") [Str.ofString "default"] (rMaxDef X.K) := by
  intro pins s σ H vs zs us ws Q I r rz h
  obtain ⟨a, ns, i, rfl, rfl, hs, q⟩ := h
  obtain rfl := Vals.ref1 r
  obtain ⟨w1, rfl, e1⟩ := vals1 rz
  obtain ⟨t1, rfl⟩ := (show ∃ t, w1 = Value.int i t from e1)
  obtain ⟨its, rv, hl, _⟩ := I.list hs
  refine max_default_ints (I.ok.hd hc) hl.isList rv.ints fun v h' tk h1 h2 hk => ?_
  by_cases h0 : ns = []
  · rw [h1 h0]
    exact ⟨.int i, H, I.kept hk, ⟨_, rfl⟩, q i (fun _ => rfl) fun h => absurd h0 h⟩
  · obtain ⟨M, t, rfl, g1, g2⟩ := h2 h0
    exact ⟨.int M, H, I.kept hk, ⟨_, rfl⟩, q M (fun h => absurd h h0) fun _ => ⟨g1, g2⟩⟩
end
end VL
end
section
set_option Elab.async false
set_option linter.all false
set_option maxRecDepth 100000
set_option autoImplicit false
set_option maxHeartbeats 4000000
/-! The value layer: a comprehension of new lists as a new region. -/
namespace VL
open PySem PySem.Spec PyProof.Rows L2
def lcG (t : Tg) (fe : Ev → Res (List PyData)) : List PyData → Ev → Res (List PyData)
  | [], _ => .ok []
  | d :: ds, e => match tgSet t d e with
    | none => .no
    | some e1 => match fe e1 with
      | .ok l => if l.all flatD then (lcG t fe ds e).bind fun ys => .ok (.list l :: ys) else .no
      | _ => .no
def lcGF (t : Tg) (vs : List Nat) (fi : Ev → Res (List PyData)) (fe : Ev → Res (List PyData)) : Ev → Res PyData := fun e =>
  (fi e).bind fun ds => if small ds.length then (lcG t fe ds (killS vs e)).bind fun ys => .ok (.list ys) else .no
theorem lcG_no_ex {t : Tg} {fe : Ev → Res (List PyData)} : ∀ (ds : List PyData) (e : Ev) (c : Str), lcG t fe ds e ≠ .ex c
  | [], e, c => fun h => by cases h
  | d :: ds, e, c => fun h => by
    unfold lcG at h
    split at h
    · cases h
    · split at h
      · split at h
        · cases hr : lcG t fe ds e with
          | ok zs => rw [hr] at h; cases h
          | ex c' => exact lcG_no_ex ds e c' hr
          | no => rw [hr] at h; cases h
        · cases h
      · cases h
theorem rg_hid {R : Ix → Hp} {B : Nat} {J J' : Hp} {D : Addr} {o : HO} : rgS (hidR (rgS R B J) D o) B J' = hidR (rgS R B J') D o := by
  funext j
  unfold rgS hidR
  by_cases h : j = .sl B
  · subst h
    simp
  · simp [h]
theorem rg_self {R : Ix → Hp} {B : Nat} : rgS R B (R (.sl B)) = R := by
  funext j
  unfold rgS
  split
  · rename_i h; rw [h]
  · rfl
section
variable {K : PySem.W.Frag} {mg : Str → Option Value} {lk : Lk} {F F' H H' : Hp} {R : Ix → Hp} {σ : Sg} {e : Ev}
/-- a part beside the frame changes -/
theorem SR.beside (s : SR K mg lk F R σ H e) {B : Nat} (hB : e.length ≤ B) {G : Hp} (nf : ∀ a, G a ≠ none → F a = none) (nr : ∀ j a, j ≠ .sl B → G a ≠ none → R j a = none) (hG : Same G H) : SR K mg lk F (rgS R B G) σ H e := by
  have := s.regn (i := B) (G := G) (x := .no) nf nr s.fh (fun j _ => s.rh j) hG rfl (fun _ _ => rfl) (fun _ => trivial)
  rwa [List.set_eq_of_length_le hB] at this
end
section
variable {X : Cx} {W : WX} {t : Tg} {vs : List Nat} {fi : Ev → Res (List PyData)} {fe : Ev → Res (List PyData)}
theorem x_lcG (ht : ∀ i ∈ t.ids, i ∈ vs) : ∀ σ H Q, tX X.K X.mg W (pG X.K X.mg) (lcGF t vs fi fe) σ H Q →
    tLc (tX X.K X.mg W (pJ X.K X.mg) fi) (gOf X.K t) (tX X.K X.mg W0 pT tYesF) (tX X.K X.mg W0 (pF X.K X.mg) fe) vs σ H Q := by
  intro σ H Q q
  obtain ⟨e, lk, F, R, s, q⟩ := q
  refine ⟨e, lk, F, R, s, resOk.bind q fun ds J H1 F1 f1 g1 s1 p1 q1 => ?_⟩
  by_cases hsm : ¬ small ds.length = true
  · rw [if_neg hsm] at q1
    exact q1.elim
  rw [if_pos (Decidable.of_not_not hsm)] at q1
  have hsz := small_le (Decidable.of_not_not hsm)
  have hsz2 : ds.length ≤ 100000 := of_decide_eq_true (Decidable.of_not_not hsm)
  cases hall : lcG t fe ds (killS vs e) with
  | no => rw [hall] at q1; exact q1.elim
  | ex c => exact absurd hall (lcG_no_ex _ _ _)
  | ok ys =>
    rw [hall] at q1
    intro D hD
    have hz : R (.hid D) = fun _ => none := by
      funext a
      cases h : R (.hid D) a with
      | none => rfl
      | some u =>
        have e1 := s1.hid D a (by rw [h]; intro z; cases z)
        subst e1
        rw [s1.newR hD] at h
        cases h
    let B := (killS vs e).length
    let RB := R (.sl B)
    have s1' : SR X.K X.mg lk F1 R (wipe σ vs) (upd H1 D (.lst [])) (killS vs e) := (s1.wipe vs).heap (same_upd hD)
    have s2 := s1'.aside (D := D) (o := .lst []) upd_same (s1.newF hD) (fun j _ => s1.newR hD j)
    have s2 : SR X.K X.mg lk F1 (hidR (rgS R B (jn RB fun _ => none)) D (.lst [])) (wipe σ vs) (upd H1 D (.lst [])) (killS vs e) := by
      have e0 : jn RB (fun _ => none) = R (.sl B) := by
        funext a
        unfold jn
        show (match R (.sl B) a with | some o => some o | none => none) = R (.sl B) a
        cases R (.sl B) a <;> rfl
      rw [e0, rg_self]
      exact s2
    refine ⟨fun i m H => m = ds.length - i ∧ i ≤ ds.length ∧ ∃ F' acc vs' rest J as, Same F1 F' ∧ Same H1 H ∧ SR X.K X.mg lk F' (hidR (rgS R B (jn RB J)) D (.lst vs')) (wipe σ vs) H (killS vs e) ∧ RfA X.K X.mg J vs' acc as ∧ as.Nodup ∧ (∀ a, J a ≠ none → RB a = none) ∧
        lcG t fe (ds.drop i) (killS vs e) = .ok rest ∧ acc ++ rest = ys ∧ vs'.length ≤ i, ⟨ds.length, by omega, Nat.zero_le _, F1, [], [], ys, fun _ => none, [], Same.refl _, same_upd hD, s2, .nil, List.nodup_nil, fun _ h => absurd rfl h, hall, rfl, Nat.le_refl _⟩, ?_⟩
    rintro i m H2 ⟨rfl, hi, F2, acc, vs', rest, J, as, f2, g2, s3, hacc, hnd, hJB, hrest, hys, hlen⟩
    have pm : Same F1 H2 ∧ ∀ i, Same (R (.sl i)) H2 := ⟨f2.trans s3.fh, fun i b u q => by
      by_cases hiB : i = B
      · subst hiB
        have := s3.rh (.sl B)
        rw [hidR_ne (by intro h; cases h), rgS_same] at this
        exact this _ _ (by rw [jn_l (show RB b ≠ none by show R (.sl B) b ≠ none; rw [q]; intro z; cases z)]; exact q)
      · have := s3.rh (.sl i)
        rw [hidR_ne (by intro h; cases h), rgS_ne (by intro h; cases h; exact hiB rfl)] at this
        exact this _ _ q⟩
    by_cases hlt : i < ds.length
    · have hd : ds.drop i = ds[i] :: ds.drop (i + 1) := List.drop_eq_getElem_cons hlt
      rw [hd] at hrest
      refine .inr ⟨p1.go i H2 pm hlt, fun H => ∃ F' acc vs' rest J as, Same F1 F' ∧ Same H1 H ∧ SR X.K X.mg lk F' (hidR (rgS R B (jn RB J)) D (.lst vs')) (wipe σ vs) H (killS vs e) ∧ RfA X.K X.mg J vs' acc as ∧ as.Nodup ∧ (∀ a, J a ≠ none → RB a = none) ∧
        lcG t fe (ds.drop (i + 1)) (killS vs e) = .ok rest ∧ acc ++ rest = ys ∧ vs'.length ≤ i + 1, fun H' h => ⟨ds.length - (i + 1), by omega, rfl, hlt, h⟩, fun x H3 y => ?_⟩
      obtain ⟨d, hdi, yl⟩ := p1.yld i H2 x H3 pm hlt y
      have ed : ds[i] = d := by
        rw [List.getElem?_eq_getElem hlt] at hdi
        exact Option.some.inj hdi
      rw [ed] at hrest
      obtain ⟨F3, f3, g3, s4, hx⟩ := (yl.mono f2).keep s3
      unfold lcG at hrest
      cases htg : tgSet t d (killS vs e) with
      | none => rw [htg] at hrest; cases hrest
      | some e1 =>
        rw [htg] at hrest
        dsimp only at hrest
        refine tg_run s4 hx htg fun σ' hw s5 => ?_
        refine ⟨(hw vs ht).trans ?_, ?_⟩
        · have aux : ∀ (us ws : List Nat) (σ : Sg), (∀ i ∈ us, i ∈ ws) → wipe (wipe σ us) ws = wipe σ ws := by
            intro us
            induction us with
            | nil => intro ws σ _; rfl
            | cons u us ih =>
              intro ws σ h
              show wipe ((wipe σ us).set u none) ws = _
              rw [wipe_set_in (h u List.mem_cons_self)]
              exact ih ws σ fun i hi => h i (List.mem_cons_of_mem _ hi)
          exact aux vs vs σ fun _ h => h
        · have sBack : ∀ {F4 H4 : Hp}, Same F3 F4 → SR X.K X.mg lk F4 (hidR (rgS R B (jn RB J)) D (.lst vs')) σ' H4 e1 → SR X.K X.mg lk F4 (hidR (rgS R B (jn RB J)) D (.lst vs')) (wipe σ vs) H4 (killS vs e) := fun {F4 H4} f4 s6 =>
            ⟨s4.len, s6.fh, s6.rh, s6.rr, s6.rf, s6.hid, fun i x q => (s4.at_ i x q).mono f4⟩
          refine ⟨e1, lk, F3, _, s5, ?_⟩
          intro b' H4 F4 f4 g4 s6 eb
          cases eb
          rw [if_pos rfl]
          refine ⟨e1, lk, F4, _, s6, ?_⟩
          cases hfe : fe e1 with
          | no => rw [hfe] at hrest; cases hrest
          | ex c => rw [hfe] at hrest; cases hrest
          | ok l =>
            rw [hfe] at hrest
            dsimp only at hrest
            by_cases hfl : l.all flatD = true
            · rw [if_pos hfl] at hrest
              cases hr2 : lcG t fe (ds.drop (i + 1)) (killS vs e) with
              | no => rw [hr2] at hrest; cases hrest
              | ex c => rw [hr2] at hrest; cases hrest
              | ok rest2 =>
                rw [hr2] at hrest
                cases hrest
                intro v H5 F5 f5 g5 s7 pv
                obtain ⟨p, us, rfl, hp, nf, nr, hr⟩ := pv
                have hDD : H5 D = some (.lst vs') := s7.rh (.hid D) _ _ (by rw [hidR_same, one_same])
                have s8 := sBack (f4.trans f5) s7
                have np : jn RB J p = none := by
                  have := nr (.sl B)
                  rwa [hidR_ne (by intro h; cases h), rgS_same] at this
                have npB : RB p = none := by
                  cases h : RB p with
                  | none => rfl
                  | some o => rw [jn_l (by rw [h]; intro z; cases z), h] at np; cases np
                have npJ : J p = none := by rwa [jn_r npB] at np
                have npD : p ≠ D := fun h => by
                  have := nr (.hid D)
                  rw [hidR_same, h, one_same] at this
                  cases this
                have s9 : SR X.K X.mg lk F5 (hidR (rgS R B (jn RB (jn J (one p (.lst us))))) D (.lst vs')) (wipe σ vs) H5 (killS vs e) := by
                  have hor : ∀ a, jn RB (jn J (one p (.lst us))) a ≠ none → a = p ∨ jn RB J a ≠ none := fun a q => by
                    rcases jn_or q with h | h
                    · exact .inr (by rw [jn_l h]; exact h)
                    · rcases jn_or h with h | h
                      · by_cases hB : RB a = none
                        · exact .inr (by rw [jn_r hB]; exact h)
                        · exact .inr (by rw [jn_l hB]; exact hB)
                      · exact .inl (one_ne h)
                  have := s8.beside (B := B) (Nat.le_refl _) (G := jn RB (jn J (one p (.lst us)))) (fun a q => by
                    rcases hor a q with rfl | h
                    · exact nf
                    · exact s8.rf (.sl B) a (by rw [hidR_ne (by intro h; cases h), rgS_same]; exact h)) (fun j a hj q => by
                    rcases hor a q with rfl | h
                    · exact nr j
                    · exact s8.rr (.sl B) j a (Ne.symm hj) (by rw [hidR_ne (by intro h; cases h), rgS_same]; exact h)) (fun a o q => by
                    by_cases ha : a = p
                    · subst ha
                      rw [jn_r npB, jn_r npJ] at q
                      obtain ⟨_, rfl⟩ := one_at q
                      exact hp
                    · refine s8.rh (.sl B) _ _ ?_
                      rw [hidR_ne (by intro h; cases h), rgS_same]
                      cases hB : RB a with
                      | some u =>
                        rw [jn_l (by rw [hB]; intro z; cases z)] at q ⊢
                        exact q
                      | none =>
                        rw [jn_r hB] at q ⊢
                        cases hJ : J a with
                        | some u =>
                          rw [jn_l (by rw [hJ]; intro z; cases z), hJ] at q
                          exact q
                        | none =>
                          rw [jn_r hJ] at q
                          exact absurd (one_at q).1 ha)
                  rwa [rg_hid] at this
                have hpas : p ∉ as := fun h => hacc.has p h npJ
                refine ⟨vs', hDD, by omega, F5, acc ++ [.list l], vs' ++ [.ref p], rest2, jn J (one p (.lst us)), as ++ [p], ((f2.trans f3).trans f4).trans f5, ?_, ?_, ?_, ?_, ?_, rfl, ?_, ?_⟩
                · intro b u q
                  have hb : b ≠ D := fun h => by rw [h, hD] at q; cases q
                  rw [upd_ne hb]
                  exact (((g2.trans g3).trans g4).trans g5) _ _ q
                · exact s9.asideSet
                · refine (hacc.frame fun a ha => jn_l (hacc.has a ha)).snoc ?_
                  exact .lst (by rw [jn_r npJ, one_same]) (RfA.flat hr hfl)
                · exact List.nodup_append.mpr ⟨hnd, by simp, fun a ha b hb h => by
                    rw [List.mem_singleton] at hb
                    subst hb
                    subst h
                    exact hpas ha⟩
                · intro a q
                  rcases jn_or q with h | h
                  · exact hJB a h
                  · rw [one_ne h]; exact npB
                · rw [List.append_assoc]
                  exact hys
                · rw [List.length_append]
                  simp only [List.length_cons, List.length_nil]
                  omega
            · rw [if_neg hfl] at hrest
              cases hrest
    · have hie : i = ds.length := by omega
      subst hie
      rw [List.drop_length] at hrest
      cases hrest
      rw [List.append_nil] at hys
      subst hys
      refine .inl ⟨p1.stop H2 pm, ?_⟩
      have hjB : ∀ a, J a ≠ none → jn RB J a = J a := fun a h => jn_r (hJB a h)
      have hreg : hidR (rgS R B (jn RB J)) D (.lst vs') (.sl B) = jn RB J := by rw [hidR_ne (by intro h; cases h), rgS_same]
      have sn : SR X.K X.mg lk F2 (hidR R D (.lst vs')) (wipe σ vs) H2 (killS vs e) := by
        have := s3.beside (B := B) (Nat.le_refl _) (G := RB) (fun a q => s3.rf (.sl B) a (by rw [hreg, jn_l q]; exact q)) (fun j a hj q => s3.rr (.sl B) j a (Ne.symm hj) (by rw [hreg, jn_l q]; exact q)) (fun a o q => s3.rh (.sl B) _ _ (by rw [hreg, jn_l (by rw [q]; intro z; cases z)]; exact q))
        rw [rg_hid] at this
        have e2 : rgS R B RB = R := rg_self
        rwa [e2] at this
      have sb := s1.back sn f2 hz
      have nD : jn RB J D = none := by
        have := s3.rr (.hid D) (.sl B) D (by intro h; cases h) (by rw [hidR_same, one_same]; intro h; cases h)
        rwa [hreg] at this
      have nDB : RB D = none := by
        cases h : RB D with
        | none => rfl
        | some o => rw [jn_l (by rw [h]; intro z; cases z), h] at nD; cases nD
      have nDJ : J D = none := by rwa [jn_r nDB] at nD
      refine q1 (.ref D) _ F2 f2 g2 sb ⟨jn J (one D (.lst vs')), fun a o q => ?_, fun a q => ?_, D :: as, List.nodup_cons.mpr ⟨fun h => hacc.has D h nDJ, hnd⟩, .lst (by rw [jn_r nDJ, one_same]) (hacc.frame fun a ha => jn_l (hacc.has a ha))⟩
      · by_cases ha : J a = none
        · rw [jn_r ha] at q
          obtain ⟨rfl, rfl⟩ := one_at q
          exact s3.rh (.hid a) _ _ (by rw [hidR_same, one_same])
        · rw [jn_l ha] at q
          exact s3.rh (.sl B) _ _ (by rw [hreg, hjB a ha]; exact q)
      · rcases jn_or q with h | h
        · refine ⟨s3.rf (.sl B) a (by rw [hreg, hjB a h]; exact h), fun j => ?_⟩
          by_cases hj : j = .sl B
          · subst hj
            exact hJB a h
          · by_cases hj2 : j = .hid D
            · subst hj2
              rw [hz]
            · have := s3.rr (.sl B) j a (Ne.symm hj) (by rw [hreg, hjB a h]; exact h)
              rwa [hidR_ne hj2, rgS_ne hj] at this
        · have := one_ne h
          subst this
          refine ⟨s3.rf (.hid a) a (by rw [hidR_same, one_same]; intro h; cases h), fun j => ?_⟩
          by_cases hj : j = .sl B
          · subst hj
            exact nDB
          · by_cases hj2 : j = .hid a
            · subst hj2
              rw [hz]
            · have := s3.rr (.hid a) j a (Ne.symm hj2) (by rw [hidR_same, one_same]; intro h; cases h)
              rwa [hidR_ne hj2, rgS_ne hj] at this
theorem cg_lc {elt tg iter : Expr} {scope : Scope} {own : List (Str × Nat)} {pos : Pos} (hc : X.calm = true) (hN : X.N.Nodup) (hi : CJ X W tg iter fi) (ok : BlkOk X.N X.env.scope scope own) (hvs : own.map (·.2) = vs) (hti : ∀ i ∈ t.ids, i ∈ vs)
    (hg : Blk X scope fun Y => PG Y tg (gOf Y.K t)) (he : Blk X scope fun Y => CF Y W0 elt fe) (hs : ∀ x, foldedSetIterable iter X.env x = pure x := by intro _; rfl) :
    CG X W (.ListComp elt [⟨tg, iter, [], 0⟩] scope pos) (lcGF t vs fi fe) := by
  subst hvs
  exact (pe_lc hc hN hi ok hg (fun _ _ _ _ _ => pts_yes) he hs).imp (x_lcG hti)
end
end VL
end
section
set_option Elab.async false
set_option linter.all false
set_option maxRecDepth 100000
set_option autoImplicit false
set_option maxHeartbeats 4000000
/-! The value layer: a list deep in a region grows. -/
namespace VL
open PySem PySem.Spec PyProof.Rows L2
section
variable {K : PySem.W.Frag} {mg : Str → Option Value} {G : Hp} {v w : V} {d dw : PyData} {up : PyData → PyData}
/-- w (worth dw) stands in what v owns; up: v's worth when w's is another one -/
def Foc (K : PySem.W.Frag) (mg : Str → Option Value) (G : Hp) (v : V) (w : V) (dw : PyData) (up : PyData → PyData) : Prop := ∃ as1 bw as2 : List Addr, (as1 ++ (bw ++ as2)).Nodup ∧ Rf K mg G w dw bw ∧ (∀ a, a ∈ as1 ++ as2 → G a ≠ none) ∧
  ∀ (r' : Hp) (dw' : PyData) (bw' : List Addr), Rf K mg r' w dw' bw' → (∀ a, a ∈ as1 ++ as2 → r' a = G a) → Rf K mg r' v (up dw') (as1 ++ (bw' ++ as2))
theorem Own.foc (h : Own K mg G v d) : Foc K mg G v v d id := by
  obtain ⟨as, nd, h⟩ := h
  exact ⟨[], as, [], by simpa using nd, h, fun a q => by simp at q, fun r' dw' bw' h' _ => by simpa using h'⟩
theorem Foc.field {c f : Str} {a : Addr} {kvs : List (PyData × PyData)} {dl : PyData} (h : Foc K mg G v (.ref a) (.dict ((.none, .str c) :: kvs)) up) (hl : lkD f kvs = some dl) : ∃ C dx fs w, G a = some (.ins C dx fs) ∧ mg c = some (.ref C) ∧ fs.lookup f = some w ∧
    Foc K mg G v w dl fun y => up (.dict ((.none, .str c) :: putD f y kvs)) := by
  obtain ⟨as1, bw, as2, nd, hr, hh, put⟩ := h
  cases hr with
  | flat hf _ => cases hf
  | @ins _ C dx fs c' gs as hp hm hn hra =>
    obtain ⟨w, hw, _⟩ := lk_fld hn hra.rp hl
    obtain ⟨dw, b1, b, b2, e1, e2, h2, k2⟩ := RfA.fmod hn hra hw
    rw [hl] at e1
    cases e1
    subst e2
    refine ⟨C, dx, fs, w, hp, hm, hw, as1 ++ (a :: b1), b, b2 ++ as2, ?_, h2, fun x hx => ?_, fun r' dw' bw' h' hf => ?_⟩
    · simpa [List.append_assoc] using nd
    · have : x ∈ as1 ++ as2 ∨ x = a ∨ x ∈ b1 ++ (b ++ b2) := by
        simp only [List.mem_append, List.mem_cons] at hx ⊢
        rcases hx with (h | rfl | h) | h | h
        · exact .inl (.inl h)
        · exact .inr (.inl rfl)
        · exact .inr (.inr (.inl h))
        · exact .inr (.inr (.inr (.inr h)))
        · exact .inl (.inr h)
      rcases this with h | rfl | h
      · exact hh x h
      · rw [hp]; intro z; cases z
      · exact hra.has x h
    · obtain ⟨k3, k4⟩ := k2 r' dw' bw' h' fun x hx => hf x (by simp only [List.mem_append, List.mem_cons] at hx ⊢; rcases hx with h | h <;> simp [h])
      have := put r' (insD c (putG f dw' gs)) (a :: (b1 ++ (bw' ++ b2))) (.ins (by rw [hf a (by simp)]; exact hp) hm k3 k4) fun x hx => hf x (by simp only [List.mem_append, List.mem_cons] at hx ⊢; rcases hx with h | h <;> simp [h])
      show Rf K mg r' v (up (.dict ((.none, .str c) :: putD f dw' (gs.map fun p => (PyData.str p.1, p.2))))) _
      rw [show putD f dw' (gs.map fun p => (PyData.str p.1, p.2)) = (putG f dw' gs).map enc from putD_enc f dw' gs]
      simpa [List.append_assoc] using this
theorem Foc.item {a : Addr} {ds : List PyData} {k : Nat} {dl : PyData} (h : Foc K mg G v (.ref a) (.list ds) up) (hl : ds[k]? = some dl) : ∃ xs w, G a = some (.lst xs) ∧ xs[k]? = some w ∧ Foc K mg G v w dl fun y => up (.list (ds.set k y)) := by
  obtain ⟨as1, bw, as2, nd, hr, hh, put⟩ := h
  cases hr with
  | flat hf _ => cases hf
  | @lst _ xs _ as hp hra =>
    obtain ⟨w, hw, _⟩ := hra.rp.get hl
    obtain ⟨dw, b1, b, b2, e1, e2, h2, k2⟩ := RfA.lens hra hw
    rw [hl] at e1
    cases e1
    subst e2
    refine ⟨xs, w, hp, hw, as1 ++ (a :: b1), b, b2 ++ as2, ?_, h2, fun x hx => ?_, fun r' dw' bw' h' hf => ?_⟩
    · simpa [List.append_assoc] using nd
    · have : x ∈ as1 ++ as2 ∨ x = a ∨ x ∈ b1 ++ (b ++ b2) := by
        simp only [List.mem_append, List.mem_cons] at hx ⊢
        rcases hx with (h | rfl | h) | h | h
        · exact .inl (.inl h)
        · exact .inr (.inl rfl)
        · exact .inr (.inr (.inl h))
        · exact .inr (.inr (.inr (.inr h)))
        · exact .inl (.inr h)
      rcases this with h | rfl | h
      · exact hh x h
      · rw [hp]; intro z; cases z
      · exact hra.has x h
    · have k4 := k2 r' w dw' bw' h' fun x hx => hf x (by simp only [List.mem_append, List.mem_cons] at hx ⊢; rcases hx with h | h <;> simp [h])
      have hxs : xs.set k w = xs := by
        obtain ⟨hk, e⟩ := List.getElem?_eq_some_iff.mp hw
        rw [← e]
        exact List.set_getElem_self hk
      rw [hxs] at k4
      have := put r' (.list (ds.set k dw')) (a :: (b1 ++ (bw' ++ b2))) (.lst (by rw [hf a (by simp)]; exact hp) k4) fun x hx => hf x (by simp only [List.mem_append, List.mem_cons] at hx ⊢; rcases hx with h | h <;> simp [h])
      simpa [List.append_assoc] using this
/-- the list in focus takes one more item -/
theorem Foc.app {p : Addr} {ds : List PyData} {J : Hp} {y : V} {dy : PyData} (h : Foc K mg G v (.ref p) (.list ds) up) (hJ : ∀ a, J a ≠ none → G a = none) (ho : Own K mg J y dy) : ∃ xs, G p = some (.lst xs) ∧ xs.length = ds.length ∧
    Own K mg (upd (jn G J) p (.lst (xs ++ [y]))) v (up (.list (ds ++ [dy]))) := by
  obtain ⟨as1, bw, as2, nd, hr, hh, put⟩ := h
  obtain ⟨js, jn1, jr⟩ := ho
  cases hr with
  | flat hf _ => cases hf
  | @lst _ xs _ cs hp hra =>
    have gp : G p ≠ none := by rw [hp]; intro z; cases z
    have dj : ∀ b, b ∈ js → G b = none := fun b hb => hJ b (jr.has b hb)
    have hall : ∀ b, b ∈ as1 ++ ((p :: cs) ++ as2) → G b ≠ none := fun b hb => by
      have : b ∈ as1 ++ as2 ∨ b = p ∨ b ∈ cs := by
        simp only [List.mem_append, List.mem_cons] at hb ⊢
        rcases hb with h | (rfl | h) | h
        · exact .inl (.inl h)
        · exact .inr (.inl rfl)
        · exact .inr (.inr h)
        · exact .inl (.inr h)
      rcases this with h | rfl | h
      · exact hh b h
      · exact gp
      · exact hra.has b h
    have pm : ((as1 ++ ((p :: cs) ++ as2)) ++ js).Perm (as1 ++ ((p :: (cs ++ js)) ++ as2)) := by
      rw [List.append_assoc]
      refine List.Perm.append_left _ ?_
      show (((p :: cs) ++ as2) ++ js).Perm (((p :: cs) ++ js) ++ as2)
      rw [List.append_assoc, List.append_assoc]
      exact List.Perm.append_left _ List.perm_append_comm
    have nd2 : (as1 ++ ((p :: (cs ++ js)) ++ as2)).Nodup := pm.nodup_iff.mp (List.nodup_append.mpr ⟨nd, jn1, fun x hx y hy h => hall x hx (dj x (h ▸ hy))⟩)
    have n2 : ((p :: cs) ++ (as1 ++ as2)).Nodup := by
      refine (List.Perm.nodup_iff ?_).mp nd
      rw [← List.append_assoc, ← List.append_assoc]
      exact List.Perm.append_right _ List.perm_append_comm
    have n3 : p ∉ cs ++ (as1 ++ as2) := (List.nodup_cons.mp n2).1
    have fr : ∀ b, G b ≠ none → b ≠ p → upd (jn G J) p (.lst (xs ++ [y])) b = G b := fun b hb hne => by rw [upd_ne hne, jn_l hb]
    have fj : ∀ b, b ∈ js → upd (jn G J) p (.lst (xs ++ [y])) b = J b := fun b hb => by rw [upd_ne (fun h : b = p => gp (by rw [← h]; exact dj b hb)), jn_r (dj b hb)]
    refine ⟨xs, hp, hra.rp.len, _, nd2, put _ (.list (ds ++ [dy])) (p :: (cs ++ js)) (.lst upd_same ((hra.frame fun b hb => fr b (hra.has b hb) fun h => n3 (h ▸ List.mem_append_left _ hb)).snoc (jr.frame fj))) fun b hb => fr b (hh b hb) fun h => n3 (h ▸ List.mem_append_right _ hb)⟩
end
section
variable {K : PySem.W.Frag} {mg : Str → Option Value} {lk : Lk} {F H H1 : Hp} {R : Ix → Hp} {σ : Sg} {e : Ev}
/-- the frame when a list of slot i's part took one more item -/
theorem SR.grow (s : SR K mg lk F R σ H e) {i : Nat} {z : Slot} {d : PyData} (he : e[i]? = some z) (hz : rgOf z = some d) {v : V} (hv : σ[i]? = some (some v)) {p : Addr} {ds : List PyData} {up : PyData → PyData} (hf : Foc K mg (R (.sl i)) v (.ref p) (.list ds) up) {y : V} {dy : PyData} (hy : pG K mg R F H y dy) :
    ∃ xs, H p = some (.lst xs) ∧ xs.length = ds.length ∧ SR K mg lk F (VL.rgS R i (upd (jn (R (.sl i)) hy.choose) p (.lst (xs ++ [y])))) σ (upd H p (.lst (xs ++ [y]))) (e.set i (rgTo z (up (.list (ds ++ [dy]))))) := by
  have hJ := hy.choose_spec
  generalize hy.choose = J at hJ
  obtain ⟨hJ, hn, ho⟩ := hJ
  obtain ⟨u, hu, _, upd1⟩ := s.getR he hz
  rw [hv] at hu
  cases hu
  obtain ⟨xs, hp, hl, hown⟩ := hf.app (fun a q => (hn a q).2 _) ho
  have gp : R (.sl i) p ≠ none := by rw [hp]; intro z; cases z
  refine ⟨xs, s.rh (.sl i) _ _ hp, hl, upd1 _ _ _ hown (fun b u q => ?_) (fun b u q1 q => ?_) fun b q => ?_⟩
  · by_cases hb : b = p
    · subst hb
      rw [upd_same] at q ⊢
      exact q
    · rw [upd_ne hb] at q ⊢
      cases hg : R (.sl i) b with
      | none => rw [jn_r hg] at q; exact hJ _ _ q
      | some w =>
        rw [jn_l (by rw [hg]; intro z; cases z), hg] at q
        cases q
        exact s.rh (.sl i) _ _ hg
  · have hb : b ≠ p := fun h => gp (h ▸ q1)
    rw [upd_ne hb]
    exact q
  · by_cases hb : b = p
    · exact .inl (hb ▸ gp)
    · rw [upd_ne hb] at q
      rcases jn_or q with h | h
      · exact .inl h
      · exact .inr (hn b h)
end
section
variable {X : Cx} {W : WX} {o ex : Expr} {i k : Nat} {pos apos cpos spos : Pos} {fe : Ev → Res PyData}
def onRgL (i : Nat) (e : Ev) (g : Slot → List PyData → Out) : Out := match e[i]? with
  | some z => (match rgOf z with
    | some (.list ds) => g z ds
    | _ => .no)
  | none => .no
theorem onRgL_ok {K : PySem.W.Frag} {mg : Str → Option Value} {lk : Lk} {F : Hp} {R : Ix → Hp} {D : Ends} {e : Ev} {g : Slot → List PyData → Out} (q : fin K mg W lk F R D (onRgL i e g)) : ∃ z ds, e[i]? = some z ∧ rgOf z = some (.list ds) ∧ fin K mg W lk F R D (g z ds) := by
  unfold onRgL at q
  cases he : e[i]? with
  | none => rw [he] at q; exact q.elim
  | some z =>
    rw [he] at q
    dsimp only at q
    split at q
    · rename_i ds hz
      exact ⟨z, ds, rfl, hz, q⟩
    · exact q.elim
/-- x.append(e), x a list in a region of its own -/
def sRApp (i : Nat) (fe : Ev → Res PyData) : SS := fun e => onRgL i e fun z ds => thn (fe e) e fun y => if small (ds.length + 1) then .nx (e.set i (rgTo z (.list (ds ++ [y])))) else .no
theorem cs_rapp (ho : PE X o (tVar i)) (he : CG X W ex fe) (hbase : attributeBase o "append" X.env (eval o X.env) = eval o X.env := by rfl)
    (hfew : ((backTo cpos (starEach (ex :: []) X.env)).all (fun x => !x.1) && (backToKw cpos (keywordEach [] X.env)).all (fun x => x.1.isSome)
      && decide ((ex :: []).length + ([] : List Keyword).length + (if ([] : List Keyword).isEmpty then 0 else 1) < 30)) = true := by rfl)
    (hline : (apos.endLine == cpos.line) = true := by rfl) (hs : starEach (ex :: []) X.env = (false, eval ex X.env) :: starEach [] X.env := by rfl) (hplain : (backTo cpos (starEach [] X.env)).any (·.1) = false := by rfl)
    (hsw : swapsWith (.Call (.Attribute o "append" apos) [ex] [] cpos) none pos.line X.env = pure false := by rfl) :
    CS X W (.Expr (.Call (.Attribute o "append" apos) [ex] [] cpos) pos) (sRApp i fe) :=
  (ps_expr (pe_bm PySem.F.plainAttrs_list PySem.F.slot_list_append PySem.F.type_list_append mt_append ho (pa_cons he pa_nil hs) hbase hfew hline hs hplain) hsw).imp fun D σ H q => by
  obtain ⟨e, lk, F, R, s, q⟩ := q
  obtain ⟨z, ds, he, hz, q⟩ := onRgL_ok q
  obtain ⟨u, hu, hown, _⟩ := s.getR he hz
  have hrp := hown.rp
  cases hrp with
  | @lst p xs _ hp _ =>
    refine ⟨.ref p, hu, .inl ⟨rfl, _, SqL.of (s.rh (.sl i) _ _ hp)⟩, e, lk, F, R, s, fin.bind q fun y v H1 F1 f1 g1 s1 p1 q1 => ?_⟩
    by_cases hsm : small (ds.length + 1) = true
    · rw [if_pos hsm] at q1
      obtain ⟨ys, h1, h2, h3⟩ := s1.grow he hz hu hown.foc p1
      exact ⟨p, ys, v, rfl, rfl, h1, by rw [h2]; exact small_lt hsm, q1 σ _ F1 _ (Same.refl _) KeepR.rgS h3⟩
    · rw [if_neg hsm] at q1
      exact q1.elim
theorem atI_some {α : Type} {xs : List α} {k : Nat} {w : α} (h : xs[k]? = some w) : L2.atI xs (k : Int) = some w := by
  have hk := (List.getElem?_eq_some_iff.mp h).1
  unfold L2.atI
  have : L2.ixN xs.length (k : Int) = some k := by
    unfold L2.ixN
    rw [if_pos (by omega), if_pos (by omega)]
    rfl
  rw [this]
  exact h
/-- x[k].append(e), k written out -/
def sRAppAt (i k : Nat) (fe : Ev → Res PyData) : SS := fun e => onRgL i e fun z ds => match ds[k]? with
  | some (.list xs) => thn (fe e) e fun y => if small (xs.length + 1) then .nx (e.set i (rgTo z (.list (ds.set k (.list (xs ++ [y])))))) else .no
  | _ => .no
theorem cs_rappAt (k : Nat) {j : Nat} {p3 : Pos} (ho : PE X o (tVar i)) (he : CG X W ex fe) (hbase : attributeBase (.Subscript o (.Constant (.int (k : Int)) j p3) spos) "append" X.env (eval (.Subscript o (.Constant (.int (k : Int)) j p3) spos) X.env) = eval (.Subscript o (.Constant (.int (k : Int)) j p3) spos) X.env := by rfl)
    (hfew : ((backTo cpos (starEach (ex :: []) X.env)).all (fun x => !x.1) && (backToKw cpos (keywordEach [] X.env)).all (fun x => x.1.isSome)
      && decide ((ex :: []).length + ([] : List Keyword).length + (if ([] : List Keyword).isEmpty then 0 else 1) < 30)) = true := by rfl)
    (hline : (apos.endLine == cpos.line) = true := by rfl) (hs : starEach (ex :: []) X.env = (false, eval ex X.env) :: starEach [] X.env := by rfl) (hplain : (backTo cpos (starEach [] X.env)).any (·.1) = false := by rfl)
    (hsw : swapsWith (.Call (.Attribute (.Subscript o (.Constant (.int (k : Int)) j p3) spos) "append" apos) [ex] [] cpos) none pos.line X.env = pure false := by rfl) :
    CS X W (.Expr (.Call (.Attribute (.Subscript o (.Constant (.int (k : Int)) j p3) spos) "append" apos) [ex] [] cpos) pos) (sRAppAt i k fe) :=
  (ps_expr (pe_bm PySem.F.plainAttrs_list PySem.F.slot_list_append PySem.F.type_list_append mt_append (pe_ix ix_seq ho pe_int (fun _ _ => rfl)) (pa_cons he pa_nil hs) hbase hfew hline hs hplain) hsw).imp fun D σ H q => by
  obtain ⟨e, lk, F, R, s, q⟩ := q
  obtain ⟨z, ds, he, hz, q⟩ := onRgL_ok q
  obtain ⟨u, hu, hown, _⟩ := s.getR he hz
  cases hk : ds[k]? with
  | none => rw [hk] at q; exact q.elim
  | some dl =>
    rw [hk] at q
    have hrp := hown.rp
    cases hrp with
    | @lst p xs _ hp hxs =>
      obtain ⟨xs', w, hp', hw, hfoc⟩ := hown.foc.item hk
      rw [hp] at hp'
      cases hp'
      cases dl with
      | list ls =>
        dsimp only at q
        have hwr : ∃ pp, w = .ref pp ∧ ∃ ws, R (.sl i) pp = some (.lst ws) := by
          obtain ⟨w', hw', hr'⟩ := hxs.get hk
          rw [hw] at hw'
          cases hw'
          cases hr' with
          | @lst pp ws _ hpp _ => exact ⟨pp, rfl, ws, hpp⟩
        obtain ⟨pp, rfl, ws, hpp⟩ := hwr
        refine ⟨.ref p, hu, .inl ⟨p, xs, (k : Int), .ref pp, rfl, rfl, SqL.of (s.rh (.sl i) _ _ hp), atI_some hw, .inl ⟨rfl, _, SqL.of (s.rh (.sl i) _ _ hpp)⟩, e, lk, F, R, s, fin.bind q fun y v H1 F1 f1 g1 s1 p1 q1 => ?_⟩⟩
        by_cases hsm : small (ls.length + 1) = true
        · rw [if_pos hsm] at q1
          obtain ⟨ys, h1, h2, h3⟩ := s1.grow he hz hu hfoc p1
          exact ⟨pp, ys, v, rfl, rfl, h1, by rw [h2]; exact small_lt hsm, q1 σ _ F1 _ (Same.refl _) KeepR.rgS h3⟩
        · rw [if_neg hsm] at q1
          exact q1.elim
      | none => exact q.elim
      | bool _ => exact q.elim
      | int _ => exact q.elim
      | str _ => exact q.elim
      | tuple _ => exact q.elim
      | dict _ => exact q.elim
end
end VL
end
section
set_option Elab.async false
set_option linter.all false
set_option maxRecDepth 100000
set_option autoImplicit false
set_option maxHeartbeats 4000000
/-! The value layer: each list of a field takes one more item; max with a default; a list of two new lists. -/
namespace VL
open PySem PySem.Spec PyProof.Rows L2
theorem lkD_put (f : Str) (y : PyData) : ∀ (gs : List (Str × PyData)), lkD f (putD f y (gs.map enc)) = some y
  | [] => if_pos rfl
  | (g, x) :: r => by
    show lkD f (if g = f then _ else _) = _
    by_cases h : g = f
    · rw [if_pos h]
      exact if_pos h
    · rw [if_neg h]
      show (if g = f then _ else _) = _
      rw [if_neg h]
      exact lkD_put f y r
theorem putD_put (f : Str) (x y : PyData) : ∀ (gs : List (Str × PyData)), putD f y (putD f x (gs.map enc)) = putD f y (gs.map enc)
  | [] => if_pos rfl
  | (g, u) :: r => by
    show putD f y (if g = f then _ else _) = (if g = f then _ else _)
    by_cases h : g = f
    · rw [if_pos h, if_pos h]
      exact if_pos h
    · rw [if_neg h, if_neg h]
      show (if g = f then _ else _) = _
      rw [if_neg h, putD_put f x y r]
theorem putD_self (f : Str) (y : PyData) : ∀ (gs : List (Str × PyData)), lkD f (gs.map enc) = some y → putD f y (gs.map enc) = gs.map enc
  | [], h => by cases h
  | (g, u) :: r, h => by
    have h : (if g = f then some u else lkD f (r.map enc)) = some y := h
    show (if g = f then _ else _) = _
    by_cases hg : g = f
    · rw [if_pos hg] at h ⊢
      cases h
      rfl
    · rw [if_neg hg] at h ⊢
      rw [putD_self f y r h]
      rfl
theorem rgOf_to {z : Slot} {d d' : PyData} (h : rgOf z = some d) : rgOf (rgTo z d') = some d' := by
  cases z <;> first | rfl | cases h
theorem rgTo_to {z : Slot} {d d' d2 : PyData} (h : rgOf z = some d) : rgTo (rgTo z d') d2 = rgTo z d2 := by
  cases z <;> first | rfl | cases h
theorem rgTo_self {z : Slot} {d : PyData} (h : rgOf z = some d) : rgTo z d = z := by
  cases z <;> first | (cases h; rfl) | cases h
theorem rgS_rgS {R : Ix → Hp} {i : Nat} {G J : Hp} : rgS (rgS R i G) i J = rgS R i J := by
  funext j
  unfold rgS
  by_cases h : j = .sl i
  · rw [if_pos h, if_pos h]
  · rw [if_neg h, if_neg h, if_neg h]
theorem pG_flat {K : PySem.W.Frag} {mg : Str → Option Value} {R : Ix → Hp} {F H : Hp} {v : V} {d : PyData} (h : Rp K mg H v d) (f : flatD d = true) : pG K mg R F H v d :=
  ⟨fun _ => none, fun b o q => (by cases q), fun a q => absurd rfl q, [], List.nodup_nil, .flat f (h.flat f)⟩
def eachA (y : PyData) : List PyData → Option (List PyData)
  | [] => some []
  | .list l :: r => if small (l.length + 1) && l.all flatD then (eachA y r).map (.list (l ++ [y]) :: ·) else none
  | _ => none
theorem eachA_at {y : PyData} : ∀ {dss dss' : List PyData} {k : Nat}, eachA y dss = some dss' → k < dss.length → ∃ l, dss[k]? = some (.list l) ∧ small (l.length + 1) = true ∧ l.all flatD = true ∧ dss'[k]? = some (.list (l ++ [y]))
  | [], _, k, _, hk => by simp at hk
  | .list l :: r, dss', k, h, hk => by
    have h : (if small (l.length + 1) && l.all flatD then (eachA y r).map (.list (l ++ [y]) :: ·) else none) = some dss' := h
    by_cases hc : (small (l.length + 1) && l.all flatD) = true
    · rw [if_pos hc] at h
      rw [Bool.and_eq_true] at hc
      cases hr : eachA y r with
      | none => rw [hr] at h; cases h
      | some r' =>
        rw [hr] at h
        cases h
        cases k with
        | zero => exact ⟨l, rfl, hc.1, hc.2, rfl⟩
        | succ k => exact eachA_at (k := k) hr (by simpa using hk)
    · rw [if_neg hc] at h
      cases h
  | .none :: _, _, _, h, _ => by cases h
  | .bool _ :: _, _, _, h, _ => by cases h
  | .int _ :: _, _, _, h, _ => by cases h
  | .str _ :: _, _, _, h, _ => by cases h
  | .tuple _ :: _, _, _, h, _ => by cases h
  | .dict _ :: _, _, _, h, _ => by cases h
theorem eachA_len {y : PyData} : ∀ {dss dss' : List PyData}, eachA y dss = some dss' → dss'.length = dss.length
  | [], _, h => by cases h; rfl
  | .list l :: r, dss', h => by
    have h : (if small (l.length + 1) && l.all flatD then (eachA y r).map (.list (l ++ [y]) :: ·) else none) = some dss' := h
    split at h
    · cases hr : eachA y r with
      | none => rw [hr] at h; cases h
      | some r' =>
        rw [hr] at h
        cases h
        simp [eachA_len hr]
    · cases h
  | .none :: _, _, h => by cases h
  | .bool _ :: _, _, h => by cases h
  | .int _ :: _, _, h => by cases h
  | .str _ :: _, _, h => by cases h
  | .tuple _ :: _, _, h => by cases h
  | .dict _ :: _, _, h => by cases h
theorem dsk_set {dss dss' : List PyData} {k : Nat} {x : PyData} (hl : dss'.length = dss.length) (hk : k < dss.length) (hx : dss'[k]? = some x) : (dss'.take k ++ dss.drop k).set k x = dss'.take (k + 1) ++ dss.drop (k + 1) := by
  have h1 : (dss'.take k).length = k := by rw [List.length_take]; omega
  rw [List.set_append_right _ _ (by omega), h1, Nat.sub_self, List.drop_eq_getElem_cons hk, List.set_cons_zero, List.take_succ, hx]
  simp
section
variable {X : Cx} {W : WX} {o tg en : Expr} {i t k : Nat} {c f tn : Str} {pos apos cpos fpos epos p2 : Pos} {j : Nat} {m : Int}
/-- for T in x.f: T.append(m) -/
def sFEach (i t : Nat) (c f : Str) (y : PyData) : SS := fun e => onRg i e c fun z kvs => match lkD f kvs with
  | some (.list dss) => (match eachA y dss with
    | some dss' => if i ≠ t ∧ t < e.length then .nx ((e.set i (rgTo z (.dict ((.none, .str c) :: putD f (.list dss') kvs)))).set t .no) else .no
    | none => .no)
  | _ => .no
theorem cs_feach (c : Str) (h : ClF X.K X.mg c f) (hp : PassesOwn (model X.prog X.w) X.A X.env X.xe) (hc : X.calm = true) (ho : PE X o (tVar i)) (hg : PG X tg (gName t)) (ht : PE X en (tVar t)) (hb : attributeBase o f X.env (eval o X.env) = eval o X.env := by rfl) (hbase : attributeBase en "append" X.env (eval en X.env) = eval en X.env := by rfl)
    (hfew : ((backTo cpos (starEach (.Constant (.int m) j p2 :: []) X.env)).all (fun x => !x.1) && (backToKw cpos (keywordEach [] X.env)).all (fun x => x.1.isSome)
      && decide ((Expr.Constant (.int m) j p2 :: []).length + ([] : List Keyword).length + (if ([] : List Keyword).isEmpty then 0 else 1) < 30)) = true := by rfl)
    (hline : (apos.endLine == cpos.line) = true := by rfl) (hs : starEach (.Constant (.int m) j p2 :: []) X.env = (false, eval (.Constant (.int m) j p2) X.env) :: starEach [] X.env := by rfl) (hplain : (backTo cpos (starEach [] X.env)).any (·.1) = false := by rfl)
    (hsw : swapsWith (.Call (.Attribute en "append" apos) [.Constant (.int m) j p2] [] cpos) none epos.line X.env = pure false := by rfl) (hfs : ∀ x, foldedSetIterable (.Attribute o f fpos) X.env x = pure x := by intro _; rfl) :
    CS X W (.For tg (.Attribute o f fpos) [.Expr (.Call (.Attribute en "append" apos) [.Constant (.int m) j p2] [] cpos) epos] [] pos) (sFEach i t c f (.int m)) :=
  (ps_for hp hc (pi_list (pe_fld ho hb)) hg (pss_one (ps_expr (pe_bm PySem.F.plainAttrs_list PySem.F.slot_list_append PySem.F.type_list_append mt_append ht (pa_cons pe_int pa_nil hs) hbase hfew hline hs hplain) hsw)) hfs).imp fun D σ H q => by
  obtain ⟨e, lk, F, R, s, q⟩ := q
  obtain ⟨z, kvs, he, hz, q⟩ := onRg_ok q
  obtain ⟨u, hu, hown, _⟩ := s.getR he hz
  obtain ⟨a, C, dx, fs, gs, as, rfl, rfl, hpa, hm, hnm, nd, hr⟩ := own_ins hown
  obtain ⟨h1, h2⟩ := h C hm
  cases hl : lkD f (gs.map enc) with
  | none => rw [hl] at q; exact q.elim
  | some dl =>
    rw [hl] at q
    cases dl with
    | list dss =>
      dsimp only at q
      cases hea : eachA (.int m) dss with
      | none => rw [hea] at q; exact q.elim
      | some dss' =>
        rw [hea] at q
        dsimp only at q
        by_cases hcnd : i ≠ t ∧ t < e.length
        · rw [if_pos hcnd] at q
          obtain ⟨hit, htl⟩ := hcnd
          have hlen := eachA_len hea
          obtain ⟨w, hw, hwr⟩ := lk_fld hnm hr.rp hl
          cases hwr with
          | @lst p ws _ hpp hws =>
            have hwl := hws.len
            let env : Nat → Ev := fun k => (e.set i (rgTo z (.dict ((.none, .str c) :: putD f (.list (dss'.take k ++ dss.drop k)) (gs.map enc))))).set t .no
            have hei : i < e.length := (List.getElem?_eq_some_iff.mp he).1
            have envi : ∀ k, (env k)[i]? = some (rgTo z (.dict ((.none, .str c) :: putD f (.list (dss'.take k ++ dss.drop k)) (gs.map enc)))) := fun k => by
              show ((e.set i _).set t .no)[i]? = _
              rw [List.getElem?_set_ne (Ne.symm hit), List.getElem?_set_self hei]
            have e0 : env 0 = e.set t .no := by
              show (e.set i (rgTo z (.dict ((.none, .str c) :: putD f (.list ([] ++ dss)) (gs.map enc))))).set t .no = _
              rw [List.nil_append, putD_self f _ gs hl, rgTo_self hz]
              congr 1
              obtain ⟨_, e1⟩ := List.getElem?_eq_some_iff.mp he
              rw [← e1]
              exact List.set_getElem_self hei
            refine ⟨.ref a, hu, a, C, dx, fs, .ref p, rfl, s.rh (.sl i) _ _ hpa, h1, h2, hw, p, rfl, ⟨ws, SqL.of (s.rh (.sl i) _ _ hpp)⟩, for_list (K := X.K) (a := p) (xs := ws) (fun k σ' H' => k ≤ ws.length ∧ ∃ G, SR X.K X.mg lk F (rgS R i G) σ' H' (env k) ∧ σ'[i]? = some (some (.ref a)) ∧ G a = some (.ins C dx fs) ∧ G p = some (.lst ws))
              ⟨Nat.zero_le _, R (.sl i), by rw [rg_self, e0]; exact s.setN t, ?_, hpa, hpp⟩ (fun k σ' H' _ ⟨_, G, sk, _, _, gp⟩ => SqL.of (sk.rh (.sl i) _ _ (by rw [rgS_same]; exact gp))) ?_ ?_⟩
            · exact hu
            · rintro k x σ' H' hx ⟨hk, G, sk, hσ, ga, gp⟩
              have hkl : k < ws.length := (List.getElem?_eq_some_iff.mp hx).1
              obtain ⟨l, hd1, hsm, hfl, hd2⟩ := eachA_at hea (show k < dss.length by omega)
              have envt : (env k)[t]? = some .no := by
                show ((e.set i _).set t .no)[t]? = _
                exact List.getElem?_set_self (by rw [List.length_set]; exact htl)
              have htσ : t < σ'.length := by
                rw [← sk.len]
                exact (List.getElem?_eq_some_iff.mp envt).1
              obtain ⟨u', hu', hok, _⟩ := sk.getR (envi k) (rgOf_to hz)
              rw [hσ] at hu'
              cases hu'
              rw [rgS_same] at hok
              obtain ⟨C', dx', fs', w', ga', _, hw', foc1⟩ := hok.foc.field (lkD_put f (.list (dss'.take k ++ dss.drop k)) gs)
              rw [ga] at ga'
              cases ga'
              rw [hw] at hw'
              cases hw'
              have hdk : (dss'.take k ++ dss.drop k)[k]? = some (.list l) := by
                rw [List.getElem?_append_right (by rw [List.length_take]; omega), List.length_take, show k - min k dss'.length = 0 by omega, List.getElem?_drop]
                exact hd1
              obtain ⟨ws', x', gp', hx', foc2⟩ := foc1.item hdk
              rw [gp] at gp'
              cases gp'
              rw [hx] at hx'
              cases hx'
              have hrx : ∃ bw, Rf X.K X.mg G x (.list l) bw := by
                obtain ⟨_, bw, _, _, hrx, _⟩ := foc2
                exact ⟨bw, hrx⟩
              obtain ⟨bw, hrx⟩ := hrx
              cases hrx with
              | flat hf _ => cases hf
              | @lst q' xs _ cs hq hxs =>
                have sa := sk.any envt (some (.ref q'))
                have hi2 : (σ'.set t (some (V.ref q')))[i]? = some (some (.ref a)) := by
                  rw [List.getElem?_set_ne (Ne.symm hit)]
                  exact hσ
                obtain ⟨ys, hy1, hy2, sg⟩ := sa.grow (envi k) (rgOf_to hz) hi2 (by rw [rgS_same]; exact foc2) (pG_flat (v := .int m) (.int m) rfl)
                have hgq : G q' ≠ none := by rw [hq]; intro z; cases z
                have naq : a ≠ q' := fun h => by rw [h, hq] at ga; cases ga
                have npq : p ≠ q' := fun h => by
                  rw [h, hq] at gp
                  cases gp
                  have hle := hxs.rp.len
                  obtain ⟨dk, hdk2⟩ : ∃ dk, l[k]? = some dk := ⟨l[k]'(by omega), List.getElem?_eq_getElem (by omega)⟩
                  obtain ⟨v2, hv2, hr2⟩ := hxs.rp.get hdk2
                  rw [hx] at hv2
                  cases hv2
                  have hfd := List.all_eq_true.mp hfl dk (List.mem_of_getElem? hdk2)
                  cases hr2 <;> cases hfd
                rw [rgS_rgS, rgS_same] at sg
                have ga2 : ∀ J o, upd (jn G J) q' o a = some (.ins C dx fs) := fun J o => by rw [upd_ne naq, jn_l (by rw [ga]; intro z; cases z)]; exact ga
                have gp2 : ∀ J o, upd (jn G J) q' o p = some (.lst ws) := fun J o => by rw [upd_ne npq, jn_l (by rw [gp]; intro z; cases z)]; exact gp
                have ee : (env k).set i (rgTo (rgTo z (.dict ((.none, .str c) :: putD f (.list (dss'.take k ++ dss.drop k)) (gs.map enc)))) (id (.dict ((.none, .str c) :: putD f (.list ((dss'.take k ++ dss.drop k).set k (.list (l ++ [.int m])))) (putD f (.list (dss'.take k ++ dss.drop k)) (gs.map enc)))))) = env (k + 1) := by
                  show ((e.set i _).set t .no).set i _ = (e.set i _).set t .no
                  rw [List.set_comm _ _ (Ne.symm hit), List.set_set, putD_put, dsk_set hlen (show k < dss.length by omega) hd2, rgTo_to hz]
                  rfl
                have sg2 := sg
                rw [ee] at sg2
                exact ⟨.ref q', List.getElem?_set_self htσ, .inl ⟨rfl, _, SqL.of hy1⟩, q', ys, .int m, rfl, rfl, hy1, by rw [hy2]; exact small_lt hsm, by omega, _, sg2, hi2, ga2 _ _, gp2 _ _⟩
            · rintro σ' H' ⟨_, G, sk, _, _, _⟩
              have : env ws.length = (e.set i (rgTo z (.dict ((.none, .str c) :: putD f (.list dss') (gs.map enc))))).set t .no := by
                show (e.set i (rgTo z (.dict ((.none, .str c) :: putD f (.list (dss'.take ws.length ++ dss.drop ws.length)) (gs.map enc))))).set t .no = _
                rw [hwl, List.drop_length, List.append_nil, ← hlen, List.take_length]
              rw [this] at sk
              exact q σ' H' F _ (Same.refl _) KeepR.rgS sk
        · rw [if_neg hcnd] at q
          exact q.elim
    | none => exact q.elim
    | bool _ => exact q.elim
    | int _ => exact q.elim
    | str _ => exact q.elim
    | tuple _ => exact q.elim
    | dict _ => exact q.elim
end
end VL
end
section
set_option Elab.async false
set_option linter.all false
set_option maxRecDepth 100000
set_option autoImplicit false
set_option maxHeartbeats 4000000
/-! The value layer: fields of what stands still; max with a default; a new list of two new lists. -/
namespace VL
open PySem PySem.Spec PyProof.Rows L2
section
variable {X : Cx} {W : WX} {o a x y : Expr} {c f : Str} {pos p p2 kp : Pos} {fo fa : Ev → Res PyData} {fx fy : Ev → Res (List PyData)} {j : Nat}
theorem ce_fld (c : Str) (h : ClF X.K X.mg c f) (ha : CE X W o fo) (hb : attributeBase o f X.env (eval o X.env) = eval o X.env := by rfl) : CE X W (.Attribute o f pos) (b1 fo fun d => ofO (fldD c f d)) := (pe_fld ha hb).imp fun σ H Q q => by
  obtain ⟨e, lk, F, R, s, q⟩ := q
  refine ⟨e, lk, F, R, s, resOk.bind q fun d v H1 F1 f1 g1 s1 p1 q1 => ?_⟩
  cases hf : fldD c f d with
  | none => rw [hf] at q1; exact q1.elim
  | some d2 =>
    rw [hf] at q1
    obtain ⟨a, C, dx, fs, w, rfl, hp, hm, hl, hr⟩ := fld_rp p1 hf
    obtain ⟨h1, h2⟩ := h C hm
    exact ⟨a, C, dx, fs, w, rfl, s1.fh _ _ hp, h1, h2, hl, q1.fin s1 hr⟩
def maxDefD (i : Int) (d : PyData) : Option PyData := match intsIn d with
  | some [] => some (.int i)
  | some (n :: ns) => some (.int (maxL n ns))
  | none => none
theorem ce_maxDef {i : Int} (hc : X.calm = true) (hg : Gl X "max") (hm : X.mg "max" = none) (ha : CB X W a fa)
    (he : backTo pos (starEach [a] X.env) = (false, eval a X.env) :: backTo pos (starEach [] X.env) := by rfl) (hs : starEach [a] X.env = (false, eval a X.env) :: starEach [] X.env := by rfl) (hpl : (backTo pos (starEach [a] X.env)).any (·.1) = false := by rfl)
    (hall : (backToKw pos (keywordEach [⟨some "default", .Constant (.int i) j p2, kp⟩] X.env)).all (·.1.isSome) = true := by rfl) (hnone : (backToKw pos (keywordEach [⟨some "default", .Constant (.int i) j p2, kp⟩] X.env)).any (·.1.isNone) = false := by rfl) (hks : (backToKw pos (keywordEach [⟨some "default", .Constant (.int i) j p2, kp⟩] X.env)).filterMap (·.1) = [Str.ofString "default"] := by rfl) :
    CE X W (.Call (.Name "max" p) [a] [⟨some "default", .Constant (.int i) j p2, kp⟩] pos) (b1 fa fun d => ofO (maxDefD i d)) :=
  (pe_callBK (cr_maxDef hc) hg hm (by decide +kernel) (pa_cons ha pa_nil hs) (pk_cons pe_int pk_nil) (by decide) (by decide) he hpl hall hnone hks).imp fun σ H Q q => by
  obtain ⟨e, lk, F, R, s, q⟩ := q
  refine ⟨e, lk, F, R, s, resOk.bind q fun d v H1 F1 f1 g1 s1 p1 q1 => ?_⟩
  unfold maxDefD at q1
  cases hi : intsIn d with
  | none => rw [hi] at q1; exact q1.elim
  | some ns =>
    rw [hi] at q1
    obtain ⟨b, rfl, hs⟩ := intsIn_sq p1 hi
    refine ⟨b, ns, i, rfl, rfl, hs, fun m h1 h2 => ?_⟩
    cases ns with
    | nil =>
      rw [h1 rfl]
      exact q1.fin s1 (.int _)
    | cons n ns =>
      obtain ⟨hm1, hm2⟩ := h2 (by simp)
      have g := maxL_ge n ns
      have k : maxL n ns ∈ n :: ns := by
        rcases maxL_mem n ns with e | e
        · rw [e]; exact List.mem_cons_self
        · exact List.mem_cons_of_mem _ e
      have : m = maxL n ns := by
        have h1 := hm2 _ k
        have h2 : m ≤ maxL n ns := by
          rcases List.mem_cons.mp hm1 with rfl | hm
          · exact g.1
          · exact g.2 _ hm
        omega
      rw [this]
      exact q1.fin s1 (.int _)
def lst2 (fx fy : Ev → Res (List PyData)) : Ev → Res PyData := fun e => (fx e).bind fun a => (fy e).bind fun b => if a.all flatD && b.all flatD then .ok (.list [.list a, .list b]) else .no
theorem cg_lst2 (hx : CF X W x fx) (hy : CF X W y fy) (hs : starEach [x, y] X.env = (false, eval x X.env) :: starEach [y] X.env := by rfl) (hs2 : starEach [y] X.env = (false, eval y X.env) :: starEach [] X.env := by rfl) (hpl : (backTo pos (starEach [x, y] X.env)).any (·.1) = false := by rfl) : CG X W (.List [x, y] pos) (lst2 fx fy) :=
  (pe_lst (pa_cons hx (pa_cons hy pa_nil hs2) hs)).imp fun σ H Q q => by
  obtain ⟨e, lk, F, R, s, q⟩ := q
  unfold lst2 at q
  refine ⟨e, lk, F, R, s, resOk.bind q fun as v1 H1 F1 f1 g1 s1 p1 q1 => ?_⟩
  obtain ⟨p1, vs1, rfl, hp1, nf1, nr1, hr1⟩ := p1
  let B := e.length
  have hor : ∀ b, jn (R (.sl B)) (one p1 (.lst vs1)) b ≠ none → b = p1 ∨ R (.sl B) b ≠ none := fun b q => by
    rcases jn_or q with h | h
    · exact .inr h
    · exact .inl (one_ne h)
  have s2 := s1.beside (B := B) (Nat.le_refl _) (G := jn (R (.sl B)) (one p1 (.lst vs1))) (fun b q => by
      rcases hor b q with rfl | h
      · exact nf1
      · exact s1.rf _ b h) (fun k b hk q => by
      rcases hor b q with rfl | h
      · exact nr1 k
      · exact s1.rr _ k b (Ne.symm hk) h) (fun b o q => by
      cases hB : R (.sl B) b with
      | some u =>
        rw [jn_l (by rw [hB]; intro z; cases z), hB] at q
        cases q
        exact s1.rh _ _ _ hB
      | none =>
        rw [jn_r hB] at q
        obtain ⟨rfl, rfl⟩ := one_at q
        exact hp1)
  have hat : jn (R (.sl B)) (one p1 (.lst vs1)) p1 = some (.lst vs1) := by rw [jn_r (nr1 _), one_same]
  refine ⟨e, lk, F1, _, s2, ?_⟩
  have back : ∀ {F' H' : Hp}, SR X.K X.mg lk F' (rgS R B (jn (R (.sl B)) (one p1 (.lst vs1)))) σ H' e → SR X.K X.mg lk F' R σ H' e := fun {F' H'} s3 => by
    have hl : ∀ b, R (.sl B) b ≠ none → rgS R B (jn (R (.sl B)) (one p1 (.lst vs1))) (.sl B) b = R (.sl B) b := fun b q => by rw [rgS_same, jn_l q]
    have := s3.beside (B := B) (Nat.le_refl _) (G := R (.sl B)) (fun b q => s3.rf (.sl B) b (by rw [hl b q]; exact q)) (fun k b hk q => s3.rr (.sl B) k b (Ne.symm hk) (by rw [hl b q]; exact q)) (fun b o q => s3.rh (.sl B) _ _ (by rw [hl b (by rw [q]; intro z; cases z)]; exact q))
    rwa [rgS_rgS, rg_self] at this
  cases hfy : fy e with
  | no => rw [hfy] at q1; exact q1.elim
  | ex c =>
    rw [hfy] at q1
    exact fun C H2 F2 m f2 g2 s3 => q1 C H2 F2 m f2 g2 (back s3)
  | ok bs =>
    rw [hfy] at q1
    intro v2 H2 F2 f2 g2 s3 p2
    obtain ⟨p2, vs2, rfl, hp2, nf2, nr2, hr2⟩ := p2
    have q2 : resOk X.K X.mg W lk F1 R σ H1 e (pG X.K X.mg) Q (if as.all flatD && bs.all flatD then .ok (.list [.list as, .list bs]) else .no) := q1
    by_cases hfl : (as.all flatD && bs.all flatD) = true
    · rw [if_pos hfl] at q2
      rw [Bool.and_eq_true] at hfl
      refine ⟨by show 2 ≤ sizeLine; decide, fun t ht => ?_⟩
      have n2 : jn (R (.sl B)) (one p1 (.lst vs1)) p2 = none := by have := nr2 (.sl B); rwa [rgS_same] at this
      have h12 : p1 ≠ p2 := fun h => by rw [← h, hat] at n2; cases n2
      have hH1 : H2 p1 = some (.lst vs1) := s3.rh (.sl B) _ _ (by rw [rgS_same]; exact hat)
      have ht1 : t ≠ p1 := fun h => by rw [h, hH1] at ht; cases ht
      have ht2 : t ≠ p2 := fun h => by rw [h, hp2] at ht; cases ht
      have f1n : F2 p1 = none := s3.rf (.sl B) p1 (by rw [rgS_same, hat]; intro z; cases z)
      have nB2 : R (.sl B) p2 = none := by
        cases h : R (.sl B) p2 with
        | none => rfl
        | some o => rw [jn_l (by rw [h]; intro z; cases z), h] at n2; cases n2
      have sb := (back s3).heap (same_upd (o := .lst [.ref p1, .ref p2]) ht)
      have e1 : jn (one t (.lst [.ref p1, .ref p2])) (jn (one p1 (.lst vs1)) (one p2 (.lst vs2))) p1 = some (.lst vs1) := by
        rw [jn_r (by unfold one; rw [if_neg (Ne.symm ht1)]), jn_l (by rw [one_same]; intro z; cases z), one_same]
      have e2 : jn (one t (.lst [.ref p1, .ref p2])) (jn (one p1 (.lst vs1)) (one p2 (.lst vs2))) p2 = some (.lst vs2) := by
        rw [jn_r (by unfold one; rw [if_neg (Ne.symm ht2)]), jn_r (by unfold one; rw [if_neg (Ne.symm h12)]), one_same]
      have e0 : jn (one t (.lst [.ref p1, .ref p2])) (jn (one p1 (.lst vs1)) (one p2 (.lst vs2))) t = some (.lst [.ref p1, .ref p2]) := by
        rw [jn_l (by rw [one_same]; intro z; cases z), one_same]
      have dom : ∀ b, jn (one t (.lst [.ref p1, .ref p2])) (jn (one p1 (.lst vs1)) (one p2 (.lst vs2))) b ≠ none → b = t ∨ b = p1 ∨ b = p2 := fun b q => by
        rcases jn_or q with h | h
        · exact .inl (one_ne h)
        · rcases jn_or h with h | h
          · exact .inr (.inl (one_ne h))
          · exact .inr (.inr (one_ne h))
      refine q2 (.ref t) _ F2 f2 (g2.trans (same_upd ht)) sb ⟨jn (one t (.lst [.ref p1, .ref p2])) (jn (one p1 (.lst vs1)) (one p2 (.lst vs2))), fun b o q => ?_, fun b q => ?_, [t, p1, p2], by simp [ht1, ht2, h12], ?_⟩
      · rcases dom b (by rw [q]; intro z; cases z) with rfl | rfl | rfl
        · rw [e0] at q; cases q; exact upd_same
        · rw [e1] at q; cases q; rw [upd_ne (Ne.symm ht1)]; exact hH1
        · rw [e2] at q; cases q; rw [upd_ne (Ne.symm ht2)]; exact hp2
      · rcases dom b q with rfl | rfl | rfl
        · exact ⟨(back s3).newF ht, (back s3).newR ht⟩
        · exact ⟨f1n, nr1⟩
        · refine ⟨nf2, fun k => ?_⟩
          by_cases hk : k = .sl B
          · subst hk; exact nB2
          · have := nr2 k
            rwa [rgS_ne hk] at this
      · exact .lst e0 (.cons (as := [p1]) (.lst e1 (RfA.flat hr1 hfl.1)) (.cons (as := [p2]) (.lst e2 (RfA.flat hr2 hfl.2)) .nil))
    · rw [if_neg hfl] at q2
      exact q2.elim
end
end VL
end
section
set_option Elab.async false
set_option linter.all false
set_option maxRecDepth 100000
set_option autoImplicit false
set_option maxHeartbeats 4000000
/-! The value layer: what the printed ends need. -/
namespace VL
open PySem PySem.Spec PyProof.Rows L2
theorem lk_mem {β : Type} {c : Str} {b : β} : ∀ {l : List (Str × β)}, l.lookup c = some b → (c, b) ∈ l
  | [], h => by cases h
  | (d, x) :: l, h => by
    have h : (match c == d with | true => some x | false => l.lookup c) = some b := h
    by_cases e : c = d
    · subst e
      rw [beq_self_eq_true] at h
      cases h
      exact List.mem_cons_self
    · rw [beq_eq_false_iff_ne.mpr e] at h
      exact List.mem_cons_of_mem _ (lk_mem h)
section
variable {X : Cx} {W : WX} {x : Str} {p pos : Pos} {g : List PyData → RF} {k : Nat}
def call0 (g : List PyData → RF) : Ev → Res PyData := fun _ => match g [] with
  | .val d => .ok d
  | _ => .no
/-- a call without arguments -/
theorem ce_call0 (c : Callee X.prog X.w X.K X.mg X.base k x 0 g) (hr : Room k X.A) (hg : Gl X x) (hdb : (x == ("__debug__" : Str)) = false := by decide) : CE X W (.Call (.Name x p) [] [] pos) (call0 g) := by
  obtain ⟨f, fd, ps, _, hm, hk, hb, Fo⟩ := c.ex
  refine (pe_call0 Fo hr hg hm hk hb .nil pass_no hdb).imp fun σ H Q q => ?_
  obtain ⟨e, lk, F0, R, s, q⟩ := q
  refine ⟨F0, [], s.fh, .nil, rfl, ?_⟩
  unfold call0 at q
  cases hgd : g [] with
  | val d =>
    rw [hgd] at q
    intro v H' G a b c d' r
    have s2 := s.heap a
    refine q v H' G b a ⟨s2.len, c, s2.rh, s2.rr, fun j a q => ?_, s2.hid, fun i x q => (s2.at_ i x q).mono b⟩ r
    obtain ⟨o, ho⟩ := nn_some q
    exact d' a (by rw [s.rh j _ _ ho]; intro h; cases h) (s.rf j a q)
  | lst ds' => rw [hgd] at q; exact q.elim
  | rgn d => rw [hgd] at q; exact q.elim
  | exc c => rw [hgd] at q; exact q.elim
  | no => rw [hgd] at q; exact q.elim
end
end VL
end
section
set_option Elab.async false
set_option linter.all false
set_option maxRecDepth 100000
set_option autoImplicit false
set_option maxHeartbeats 4000000
/-! The value layer: sorted(set(xs)) of whole numbers that rise already. -/
namespace VL
open PySem PySem.Spec PyProof.Rows L2
section
variable {P : Program} {w : World} {A : Around} {E : Value → Shared → Prop} {s : Shared} {l : Addr} {items : Array Value}
/-- the new set's object -/
abbrev set0 (w : World) : Obj := { cls := .type "set", dict := none, data := .set #[] 0 (.fresh 0 0 (!w.params.followText "set-order")) }
/-- set.__init__ of a new set and a list of whole numbers -/
theorem set_init_ints (ns : List Int) {R : Value → Shared → Prop} (hh : A.handled = none) (hl : s.heap.IsList l items) (hit : IntsAre items.toList ns) (hb : ns.length + 1 < scanBound)
    (h : ∀ (h' : Heap) (tk c : Nat), SetR w h' s.heap.objs.size (fun j => decide (j ∈ ns)) c → c ≤ ns.length → (∀ b o, s.heap.get? b = some o → h'.get? b = some o) → R .none { s with heap := h', toks := tk }) :
    codeAny (model P w) A (.call (.builtin "set.__init__") ⟨[.ref s.heap.objs.size, .ref l], []⟩) (wants R E) { s with heap := s.heap.push (set0 w) } := by
  obtain ⟨ol, hol, hcl, nl, hdl⟩ := hl
  obtain ⟨ocls, odict, odata, oslots⟩ := ol
  simp only at hcl hdl
  subst hcl
  subst hdl
  have hls : l < s.heap.objs.size := Heap.lt_size hol
  have new : (s.heap.push (set0 w)).get? s.heap.objs.size = some (set0 w) := Heap.get?_push_size _ rfl
  have hl1 : (s.heap.push (set0 w)).IsList l items := ⟨_, Heap.get?_push_of_some _ hol, rfl, nl, rfl⟩
  have hl0 : (s.heap.push (set0 w)).get? l = some { cls := .type "list", dict := odict, data := .seq items nl, slots := oslots } := Heap.get?_push_of_some _ hol
  have hsz : items.size = ns.length := by have := IntsAre.length hit; rwa [Array.length_toList] at this
  have size1 : (s.heap.push (set0 w)).objs.size = s.heap.objs.size + 1 := Heap.size_push ..
  refine codeAny_mono (codeAny_call_builtin (R := wants (fun r s₂ => R r s₂) E) F.called_set.init.plain F.entry_set_init (check_set_init_1 ⟨_, new, rfl⟩ ?_)) fun r₂ s₂ hr₂ => hr₂
  have hsls := F.sub_list_set
  have hslf := F.sub_list_frozenset
  have hne : (Value.type "list" == Value.type "dict") = false := by decide
  unfold Builtin.«set.__init__» noKeywords Builtin.Frozenset.updateFrom
  generalize hPI : pyIter = PI
  wp_walk
  subst hPI
  refine wpAny_pyIter_list hl1 ?_
  refine wpAny_bind (wpAny_runValue ?_)
  have hA : A.in1.in1.handled = none := by simp [hh]
  have hlI : l ≠ (s.heap.push (set0 w)).objs.size := by rw [size1]; exact Nat.ne_of_lt (Nat.lt_succ_of_lt hls)
  have hS : s.heap.objs.size ∉ [(s.heap.push (set0 w)).objs.size, l] := by
    rw [size1]
    simp only [List.mem_cons, List.not_mem_nil, or_false, not_or]
    exact ⟨Nat.ne_of_lt (Nat.lt_succ_self _), Nat.ne_of_gt hls⟩
  refine set_update_ints ((Walks.list hA _ l hlI items).toS) s.heap.objs.size hS ns hsz hb (fun i v hv => ?_) (items.size - 0) 0 _ (by omega) (Nat.zero_le _) ?_ ?_ fun s' c' hm hc' hS' => ?_
  · have hi : i < ns.length := by rw [← hsz]; exact (Array.getElem?_eq_some_iff.mp hv).1
    obtain ⟨t, e⟩ := IntsAre.int_at hit i v (by rw [Array.getElem?_toList]; exact hv)
    exact ⟨ns[i], t, List.getElem?_eq_getElem hi, by rw [e, List.getD_eq_getElem?_getD, List.getElem?_eq_getElem hi]; rfl⟩
  · have g1 : ((s.heap.push (set0 w)).push { cls := .type "list_iterator", data := .fields #[.ref l, .int 0 0] }).IsListIter (s.heap.push (set0 w)).objs.size l 0 := ⟨_, Heap.get?_push_size _ rfl, rfl, rfl⟩
    exact ⟨g1, hl1.push _⟩
  · have new2 : ((s.heap.push (set0 w)).push { cls := .type "list_iterator", data := .fields #[.ref l, .int 0 0] }).get? s.heap.objs.size = some (set0 w) := Heap.get?_push_of_some _ new
    exact ⟨0, Nat.le_refl 0, setR_new_at new2⟩
  · obtain ⟨h', g2, d', tk', os'⟩ := s'
    obtain rfl : g2 = s.gens := hm.gens
    obtain rfl : d' = s.drawn := hm.drawn
    obtain rfl : os' = s.os := hm.os
    show wpAny _ _ _ _ _ _
    refine wpAny_pure ?_
    show wpAny _ _ (ret Value.none) _ _ _
    refine wpAny_pure (h h' tk' c' hS' (by rw [← hsz]; exact hc') fun b o e => ?_)
    have hb0 : b < s.heap.objs.size := Heap.lt_size e
    refine hm.heap b o ?_ (Heap.get?_push_of_some _ (Heap.get?_push_of_some _ e))
    rw [size1]
    simp only [List.mem_cons, List.not_mem_nil, or_false, not_or]
    exact ⟨Nat.ne_of_lt hb0, Nat.ne_of_lt (Nat.lt_succ_of_lt hb0)⟩
theorem call_set_ints (ns : List Int) {Q : Value → Shared → Prop} (hh : A.handled = none) (hl : s.heap.IsList l items) (hit : IntsAre items.toList ns) (hb : ns.length + 1 < scanBound)
    (h : ∀ (h' : Heap) (tk c : Nat), SetR w h' s.heap.objs.size (fun j => decide (j ∈ ns)) c → c ≤ ns.length → (∀ b o, s.heap.get? b = some o → h'.get? b = some o) → Q (.ref s.heap.objs.size) { s with heap := h', toks := tk }) :
    wpAny (model P w) A (call (.type "set") [.ref l]) Q E s := by
  obtain ⟨c, tl, hmro⟩ := F.called_set.mro
  have hmade := F.called_set.made
  have hsub := F.called_set.sub
  refine wpAny_call (codeAny_of_tree ?_)
  show wpAny _ _ (callAny (.type "set") _) _ _ _
  refine wpAny_pure ⟨Code.quiet_builtin _ (by decide +kernel), codeAny_builtin F.entry_type_call ?_⟩
  rw [Around.under_plain (weight_type_call_type "set" [.ref l] []) rfl]
  have h1 := F.called_set.notType
  have h2 := F.called_set.canCreate
  have hct := F.typeCall_set_1 (.ref l)
  repeat (any_goals (first | assumption | wp_step))
  refine codeAny_mono (code_set_led1 (.ref l) (E := E) (Q₁ := fun obj s₁ => obj = .ref s.heap.objs.size ∧ s₁ = { s with heap := s.heap.push (set0 w) }) ⟨rfl, rfl⟩) fun r s₁ hr => ?_
  cases r with
  | error e => exact hr
  | ok fl =>
    cases fl with
    | ret obj =>
      obtain ⟨rfl, rfl⟩ := hr
      have hT : Shared.TypeIs { s with heap := s.heap.push (set0 w) } (.ref s.heap.objs.size) "set" := ⟨_, Heap.get?_push_size _ rfl, rfl⟩
      have hli := F.called_set.init.lookup
      have hbi := F.called_set.init.bind (.ref s.heap.objs.size)
      repeat (any_goals (first | assumption | wp_step))
      refine codeAny_mono (set_init_ints (E := E) (R := fun v s' => v = .none ∧ ∃ h' tk c, s' = { s with heap := h', toks := tk } ∧ SetR w h' s.heap.objs.size (fun j => decide (j ∈ ns)) c ∧ c ≤ ns.length ∧ (∀ b o, s.heap.get? b = some o → h'.get? b = some o)) ns (by simpa using hh) hl hit hb fun h' tk c a b k => ⟨rfl, h', tk, c, rfl, a, b, k⟩) fun r₂ s₂ hr₂ => ?_
      cases r₂ with
      | error e => exact hr₂
      | ok fl₂ =>
        cases fl₂ with
        | ret r =>
          obtain ⟨rfl, h', tk, c', rfl, a, b, k⟩ := hr₂
          repeat (any_goals (first | assumption | wp_step))
          exact h _ _ _ a b k
        | _ => exact hr₂.elim
    | _ => exact hr.elim
end
end VL
end
section
set_option Elab.async false
set_option linter.all false
set_option maxRecDepth 100000
set_option autoImplicit false
set_option maxHeartbeats 4000000
/-! The value layer: sorted(set(xs)) of whole numbers that rise already. -/
namespace VL
open PySem PySem.Spec PyProof.Rows L2
section
variable {X : Cx} {W : WX} {a : Expr} {fa : Ev → Res PyData} {pos pos2 p p2 : Pos}
def rSetI (K : PySem.W.Frag) (w : World) : List V → Hp → VK → Prop := fun vs H Q => ∃ (b : Addr) (ns : List Int), vs = [V.ref b] ∧ SqL K H b (ns.map V.int) ∧ ns.length < 60 ∧
  ∀ (q : Addr) (S : Int → Bool) (c : Nat), H q = none → (∀ j, S j = true ↔ j ∈ ns) → c ≤ ns.length → Q (.ref q) (upd H q (SetO w q S c))
theorem cr_setI (hc : X.calm = true) : CallR X (.type "set") (rSetI X.K X.w) := by
  intro pins s σ H vs us Q I r h
  obtain ⟨b, ns, rfl, hs, hf, q⟩ := h
  obtain ⟨its, rv, hl, _⟩ := I.list hs
  rw [Vals.ref1 r]
  refine call_set_ints ns (I.ok.hd hc) hl.isList (by simpa using rv.ints) (by unfold scanBound; omega) fun h' tk c R1 hcn k => ?_
  exact ⟨.ref s.heap.objs.size, upd H s.heap.objs.size (SetO X.w s.heap.objs.size (fun j => decide (j ∈ ns)) c), I.laid (t' := tk) k (Nat.le_refl _) (setO_new R1), rfl, q _ _ c (I.hok.fresh (Nat.le_refl _)) (fun j => decide_eq_true_iff) hcn⟩
def sortSetI (d : PyData) : Option (List PyData) := match intsIn d with
  | some ns => if decide (ns.length < 60 ∧ ns.Pairwise (· < ·)) then some (ns.map .int) else none
  | none => none
theorem rise_eq : ∀ {a b : List Int}, a.Pairwise (· < ·) → b.Pairwise (· < ·) → (∀ k, k ∈ a ↔ k ∈ b) → a = b
  | [], [], _, _, _ => rfl
  | [], y :: b, _, _, h => by have := (h y).mpr List.mem_cons_self; cases this
  | x :: a, [], _, _, h => by have := (h x).mp List.mem_cons_self; cases this
  | x :: a, y :: b, ha, hb, h => by
    rw [List.pairwise_cons] at ha hb
    have e : x = y := by
      have h1 := (h x).mp List.mem_cons_self
      have h2 := (h y).mpr List.mem_cons_self
      rcases List.mem_cons.mp h1 with e | h1
      · exact e
      · rcases List.mem_cons.mp h2 with e | h2
        · exact e.symm
        · have := hb.1 x h1
          have := ha.1 y h2
          omega
    subst e
    congr 1
    refine rise_eq ha.2 hb.2 fun k => ⟨fun hk => ?_, fun hk => ?_⟩
    · rcases List.mem_cons.mp ((h k).mp (List.mem_cons_of_mem _ hk)) with rfl | h'
      · have := ha.1 k hk; omega
      · exact h'
    · rcases List.mem_cons.mp ((h k).mpr (List.mem_cons_of_mem _ hk)) with rfl | h'
      · have := hb.1 k hk; omega
      · exact h'
theorem pe_setI (hc : X.calm = true) (hg : Gl X "set") (hm : X.mg "set" = none) (ha : CB X W a fa) (he : starEach [a] X.env = (false, eval a X.env) :: starEach [] X.env := by rfl) (hpl : (backTo pos2 (starEach [] X.env)).any (·.1) = false := by rfl) :
    PE X (.Call (.Name "set" p2) [a] [] pos2) (tCB (rSetI X.K X.w) (tCons (tX X.K X.mg W (pB X.K X.mg) fa) tNil)) :=
  pe_callTy (cr_setI hc) hg hm (by decide +kernel) (pa_cons ha pa_nil he) (by decide) (by decide) he hpl
theorem cf_sortSetI (hc : X.calm = true) (hg : Gl X "sorted") (hm : X.mg "sorted" = none) (hg2 : Gl X "set") (hm2 : X.mg "set" = none) (ha : CB X W a fa) (he : starEach [a] X.env = (false, eval a X.env) :: starEach [] X.env := by rfl) (hpl2 : (backTo pos2 (starEach [] X.env)).any (·.1) = false := by rfl)
    (he2 : starEach [.Call (.Name "set" p2) [a] [] pos2] X.env = (false, eval (.Call (.Name "set" p2) [a] [] pos2) X.env) :: starEach [] X.env := by rfl) (hpl : (backTo pos (starEach [] X.env)).any (·.1) = false := by rfl) :
    CF X W (.Call (.Name "sorted" p) [.Call (.Name "set" p2) [a] [] pos2] [] pos) (b1 fa fun d => ofO (sortSetI d)) :=
  (pe_callB (cr_sortedSet hc) hg hm (by decide +kernel) (pa_cons (pe_setI hc hg2 hm2 ha he hpl2) pa_nil he2) (by decide) (by decide) he2 hpl).imp fun σ H Q q => by
  obtain ⟨e, lk, F, R, s, q⟩ := q
  refine ⟨e, lk, F, R, s, resOk.bind q fun d v H1 F1 f1 g1 s1 p1 q1 => ?_⟩
  unfold sortSetI at q1
  cases hi : intsIn d with
  | none => rw [hi] at q1; exact q1.elim
  | some ns =>
    rw [hi] at q1
    dsimp only at q1
    by_cases hcd : decide (ns.length < 60 ∧ ns.Pairwise (· < ·)) = true
    · rw [if_pos hcd] at q1
      obtain ⟨h60, hpw⟩ := of_decide_eq_true hcd
      obtain ⟨b, rfl, hs⟩ := intsIn_sq p1 hi
      refine ⟨b, ns, rfl, hs, h60, fun t S c ht hS hcn => ⟨t, S, c, rfl, upd_same, by omega, fun ms p hp1 hp2 hp3 hp4 => ?_⟩⟩
      have hms : ms = ns := rise_eq hp1 hpw fun k => (hp2 k).trans (hS k)
      subst hms
      have hp0 : H1 p = none := by
        by_cases hb : p = t
        · rw [hb]; exact ht
        · rwa [upd_ne hb] at hp4
      have sm : Same H1 (upd (upd H1 t (SetO X.w t S c)) p (.lst (ms.map V.int))) := (same_upd ht).trans (same_upd hp4)
      exact q1 _ _ F1 (Same.refl _) sm (s1.heap sm) ⟨p, _, rfl, upd_same, s1.newF hp0, s1.newR hp0, RpA.of_ints ms⟩
    · rw [if_neg hcd] at q1
      exact q1.elim
end
end VL
end
section
set_option Elab.async false
set_option linter.all false
set_option maxRecDepth 100000
set_option autoImplicit false
set_option maxHeartbeats 4000000
/-! The value layer: methods called, what they return. -/
namespace VL
open PySem PySem.Spec PyProof.Rows L2
section
variable {X : Cx} {W : WX} {a b : Expr} {fa fb : Ev → Res PyData} {pos : Pos}
/-- an item of a list that is only read, the item being no object -/
theorem ce_ixB (ha : CB X W a fa) (hb : CB X W b fb) (hs : PlainIx b) : CE X W (.Subscript a b pos) (b2 fa fb fun a b => (ofO (idxD a b)).bind okE) := (pe_ix ix_seq ha hb hs).imp fun σ H Q q => by
  obtain ⟨e, lk, F, R, s, q⟩ := q
  refine ⟨e, lk, F, R, s, resOk.bind q fun a v H1 F1 f1 g1 s1 p1 q1 => ?_⟩
  refine ⟨e, lk, F1, R, s1, resOk.bind q1 fun b u H2 F2 f2 g2 s2 p2 q2 => ?_⟩
  dsimp only at q2
  have fin2 : ∀ {d : PyData} {w : V}, Rp X.K X.mg H2 w d → resOk X.K X.mg W lk F2 R σ H2 e (pE X.K X.mg) Q ((ofO (some d)).bind okE) → Q w H2 := fun {d w} hr q => by
    have q : resOk X.K X.mg W lk F2 R σ H2 e (pE X.K X.mg) Q (okE d) := q
    unfold okE at q
    by_cases hf : flatD d = true
    · rw [if_pos hf] at q
      exact q.fin s2 (hr.flat hf)
    · rw [if_neg hf] at q
      exact q.elim
  cases p2 with
  | int i =>
    have p1' := Rp.mono g2 p1
    cases p1' with
    | @lst p xs ds hp hr =>
      simp only [idxD] at q2
      cases hd : L2.atI ds i with
      | none => rw [hd] at q2; exact q2.elim
      | some d =>
        rw [hd] at q2
        obtain ⟨w, hw, hr2⟩ := hr.atI hd
        exact .inl ⟨p, xs, i, w, rfl, rfl, SqL.of hp, hw, fin2 hr2 q2⟩
    | @tup p xs ds hp hr =>
      simp only [idxD] at q2
      cases hd : L2.atI ds i with
      | none => rw [hd] at q2; exact q2.elim
      | some d =>
        rw [hd] at q2
        obtain ⟨w, hw, hr2⟩ := hr.atI hd
        exact .inr (.inl ⟨p, xs, i, w, rfl, rfl, SqT.of hp, hw, fin2 hr2 q2⟩)
    | str x =>
      simp only [idxD] at q2
      by_cases h : small x.length = true
      · rw [if_pos h] at q2
        cases hd : L2.atI x.cps.toList i with
        | none => rw [hd] at q2; exact q2.elim
        | some c =>
          rw [hd] at q2
          exact .inr (.inr ⟨x, i, c, rfl, rfl, small_le h, hd, fin2 (.str _) q2⟩)
      · rw [if_neg h] at q2
        exact q2.elim
    | @scr p ns hs =>
      simp only [idxD] at q2
      cases hd : L2.atI (ns.map PyData.int) i with
      | none => rw [hd] at q2; exact q2.elim
      | some d =>
        rw [hd] at q2
        obtain ⟨w, hw, hr2⟩ := (RpA.of_ints (K := X.K) (mg := X.mg) (H := H2) ns).atI hd
        exact .inl ⟨p, _, i, w, rfl, rfl, hs, hw, fin2 hr2 q2⟩
    | non => exact q2.elim
    | bl _ => exact q2.elim
    | int _ => exact q2.elim
    | ins _ _ _ _ => exact q2.elim
  | non => exact q2.elim
  | bl _ => exact q2.elim
  | str _ => exact q2.elim
  | lst _ _ => exact q2.elim
  | tup _ _ => exact q2.elim
  | ins _ _ _ _ => exact q2.elim
  | scr _ => exact q2.elim
/-- a new tuple of what is no object -/
def okTf (ds : List PyData) : Res PyData := if ds.all flatD && small ds.length then .ok (.tuple ds) else .no
theorem cg_tup {xs : List Expr} {fr : Ev → Res (List PyData)} {k : Nat} (h : CAE X W xs fr) : CG X W (.Tuple xs k pos) (b1 fr okTf) := (pe_tup h).imp fun σ H Q q => by
  obtain ⟨e, lk, F, R, s, q⟩ := q
  refine ⟨e, lk, F, R, s, resOk.bind q fun ds vs H1 F1 f1 g1 s1 p1 q1 => ?_⟩
  unfold okTf at q1
  have p2 := RpA.of_paired p1
  by_cases hc : (ds.all flatD && small ds.length) = true
  · rw [if_pos hc] at q1
    rw [Bool.and_eq_true] at hc
    refine ⟨by rw [p2.len]; exact small_le hc.2, fun t ht => ?_⟩
    refine q1 _ _ F1 (Same.refl _) (same_upd ht) (s1.heap (same_upd ht)) ⟨one t (.tup vs), fun b o q => ?_, fun b q => ?_, [t], by simp, .tup one_same (RfA.flat p2 hc.1)⟩
    · obtain ⟨rfl, rfl⟩ := one_at q
      exact upd_same
    · have := one_ne q
      subst this
      exact ⟨s1.newF ht, s1.newR ht⟩
  · rw [if_neg hc] at q1
    exact q1.elim
def sRetS (f : Ev → Res PyData) : SS := fun e => thn (f e) e fun d => .rs e d
theorem cs_retS {x : Expr} {fe : Ev → Res PyData} (he : CE X W x fe) : CS X W (.Return (some x) pos) (sRetS fe) := (ps_ret he).imp fun D σ H q => by
  obtain ⟨e, lk, F, R, s, q⟩ := q
  refine ⟨e, lk, F, R, s, fin.bind q fun d v H1 F1 f1 g1 s1 p1 q1 => ?_⟩
  exact q1 v σ H1 F1 R (Same.refl _) (KeepR.refl _) s1 p1
end
section
variable {P : Program} {w : World} {K : PySem.W.Frag} {mg : Str → Option Value} {base : Heap}
structure CalleeM (P : Program) (w : World) (K : PySem.W.Frag) (mg : Str → Option Value) (base : Heap) (k : Nat) (c m : Str) (np : Nat) (g : PyData → List PyData → MF) : Prop where
  ex : ∃ C f fd ps, ps.length = np + 1 ∧ mg c = some (.ref C) ∧ Cls K C ∧ Meth K C m f ∧ Binds K fd ps [] ∧ FnOk P w K mg base (L2.CX P w) k f fd ps (spM K mg np g)
theorem CalleeM.mono {k k' np : Nat} {c m : Str} {g : PyData → List PyData → MF} (h : CalleeM P w K mg base k c m np g) (hk : k ≤ k') : CalleeM P w K mg base k' c m np g := by
  obtain ⟨C, f, fd, ps, a, b, c, d, e, f'⟩ := h.ex
  exact ⟨C, f, fd, ps, a, b, c, d, e, f'.mono hk⟩
theorem lk_none {m : Str} : ∀ {fs : List (Str × V)} {gs : List (Str × PyData)}, fs.map (·.1) = gs.map (·.1) → lkD m (gs.map enc) = none → fs.lookup m = none
  | [], _, _, _ => rfl
  | _ :: _, [], e, _ => by cases e
  | (g, v) :: fs, (g', d) :: gs, e, h => by
    rw [List.map_cons, List.map_cons] at e
    injection e with e1 e2
    have e1 : g = g' := e1
    subst e1
    have h : (if g = m then some d else lkD m (gs.map enc)) = none := h
    by_cases hg : g = m
    · rw [if_pos hg] at h; cases h
    · rw [if_neg hg] at h
      show (match m == g with | true => some v | false => fs.lookup m) = none
      rw [beq_eq_false_iff_ne.mpr fun h => hg h.symm]
      exact lk_none e2 h
end
section
variable {X : Cx} {W : WX} {o ex : Expr} {es : List Expr} {c m : Str} {i j k np : Nat} {fr : Ev → Res (List PyData)} {g : PyData → List PyData → MF} {pos apos cpos : Pos}
def cutH (G H : Hp) : Hp := fun b => if G b = none then H b else none
theorem cutH_n {G H : Hp} {b : Addr} (h : G b = none) : cutH G H b = H b := if_pos h
theorem cutH_s {G H : Hp} {b : Addr} (h : ¬ G b = none) : cutH G H b = none := if_neg h
/-- o.m(args): what comes of it, and the frame behind -/
def onMeth (i : Nat) (c m : Str) (g : PyData → List PyData → MF) (np : Nat) (fr : Ev → Res (List PyData)) (e : Ev) (K : Ev → PyData → Out) : Out := match fr e with
  | .ok ds => if ds.length = np then onRg i e c fun z kvs => (match lkD m kvs with
    | none => (match g (.dict ((.none, .str c) :: kvs)) ds with
      | .ok d r => K (e.set i (rgTo z d)) r
      | .no => .no)
    | some _ => .no) else .no
  | _ => .no
theorem pe_methM (cm : CalleeM X.prog X.w X.K X.mg X.base k c m np g) (hr : Room k X.A) (ho : PE X o (tVar i)) (ha : CAE X W (ex :: es) fr) (hst : starEach (ex :: es) X.env = (false, eval ex X.env) :: starEach es X.env := by rfl) (hpl : (backTo cpos (starEach es X.env)).any (·.1) = false := by rfl) {pl : Sem Bool}
    (ht : eval (.Call (.Attribute o m apos) (ex :: es) [] cpos) X.env = (do
      let ov ← eval o X.env
      standAt apos.atName
      let (f, first) ← holding [ov] (getMethod ov m pl)
      callWith cpos f first (backTo cpos (starEach (ex :: es) X.env)) (backToKw cpos (keywordEach [] X.env))) := by rfl) :
    PE X (.Call (.Attribute o m apos) (ex :: es) [] cpos) (fun σ H Q => ∃ e lk F R K0 D, SR X.K X.mg lk F R σ H e ∧ fin X.K X.mg W lk F R D (onMeth i c m g np fr e K0) ∧
      ∀ v H' F' R' e' r, Same F F' → KeepR R R' → SR X.K X.mg lk F' R' σ H' e' → flatD r = true → Rp X.K X.mg H' v r → fin X.K X.mg W lk F' R' D (K0 e' r) → Q v H') := by
  obtain ⟨C, f, fd, ps, _, hm, hcl, hme, hb, Fo⟩ := cm.ex
  refine (pe_meth ho hcl hme Fo hr hb .nil pass_no ha hst hpl ht).imp fun σ H Q q => ?_
  obtain ⟨e, lk, F, R, K0, D, s, q, kk⟩ := q
  unfold onMeth at q
  cases hf : fr e with
  | ex c => rw [hf] at q; exact q.elim
  | no => rw [hf] at q; exact q.elim
  | ok ds =>
    rw [hf] at q
    dsimp only at q
    by_cases hl : ds.length = np
    · rw [if_pos hl] at q
      obtain ⟨z, kvs, he, hz, q⟩ := onRg_ok q
      obtain ⟨u, hu, hown, _⟩ := s.getR he hz
      obtain ⟨a, C', dx, fs, gs, as, rfl, rfl, hpa, hm', hnm, nd, hrr⟩ := own_ins hown
      rw [hm] at hm'
      cases hm'
      cases hlk : lkD m (gs.map enc) with
      | some _ => rw [hlk] at q; exact q.elim
      | none =>
        rw [hlk] at q
        dsimp only at q
        refine ⟨.ref a, hu, a, dx, fs, rfl, s.rh (.sl i) _ _ hpa, lk_none hnm hlk, e, lk, F, R, s, ?_⟩
        rw [hf]
        intro vs H1 F1 f1 g1 s1 p1
        obtain ⟨u', hu', hown1, upd1⟩ := s1.getR he hz
        rw [hu] at hu'
        cases hu'
        have p2 := RpA.of_paired p1
        refine ⟨a, vs ++ [], R (.sl i), cutH (R (.sl i)) H1, _, ds, rfl, s1.rh (.sl i), hown1, fun b o q => ?_, fun b q => cutH_s q, ?_, hl, ?_⟩
        · by_cases hb : R (.sl i) b = none
          · rw [cutH_n hb] at q; exact q
          · rw [cutH_s hb] at q; cases q
        · rw [List.append_nil]
          refine p2.mono fun b o q => ?_
          have hn : R (.sl i) b = none := by
            cases h : R (.sl i) b with
            | none => rfl
            | some w => have := s1.rf (.sl i) b (by rw [h]; intro z; cases z); rw [this] at q; cases q
          rw [cutH_n hn]
          exact s1.fh _ _ q
        · cases hg : g (.dict ((.none, .str c) :: gs.map enc)) ds with
          | no => rw [hg] at q; exact q.elim
          | ok d r =>
            rw [hg] at q
            intro v H' G' k1 k2 k3 k4 k5 k6
            exact kk v H' F1 _ _ r f1 KeepR.rgS (upd1 G' H' d k4 k2 k1 fun b q => (k3 b q).imp id fun h => ⟨s1.newF h, s1.newR h⟩) k5 k6 (fin.up f1 KeepR.rgS q)
    · rw [if_neg hl] at q
      exact q.elim
end
end VL
end
section
set_option Elab.async false
set_option linter.all false
set_option maxRecDepth 100000
set_option autoImplicit false
set_option maxHeartbeats 4000000
/-! The value layer: statements with methods; a pair of two fields returned; a call's region that stands still. -/
namespace VL
open PySem PySem.Spec PyProof.Rows L2
section
variable {X : Cx} {W : WX} {o ex : Expr} {es : List Expr} {c m : Str} {i j k np : Nat} {fr : Ev → Res (List PyData)} {g : PyData → List PyData → MF} {pos apos cpos pos' : Pos} {n : Str}
/-- o.m(args) -/
def sMethX (i : Nat) (c m : Str) (g : PyData → List PyData → MF) (np : Nat) (fr : Ev → Res (List PyData)) : SS := fun e => onMeth i c m g np fr e fun e' _ => .nx e'
theorem cs_methX (cm : CalleeM X.prog X.w X.K X.mg X.base k c m np g) (hr : Room k X.A) (ho : PE X o (tVar i)) (ha : CAE X W (ex :: es) fr) (hst : starEach (ex :: es) X.env = (false, eval ex X.env) :: starEach es X.env := by rfl) (hpl : (backTo cpos (starEach es X.env)).any (·.1) = false := by rfl) {pl : Sem Bool}
    (ht : eval (.Call (.Attribute o m apos) (ex :: es) [] cpos) X.env = (do
      let ov ← eval o X.env
      standAt apos.atName
      let (f, first) ← holding [ov] (getMethod ov m pl)
      callWith cpos f first (backTo cpos (starEach (ex :: es) X.env)) (backToKw cpos (keywordEach [] X.env))) := by rfl)
    (hsw : swapsWith (.Call (.Attribute o m apos) (ex :: es) [] cpos) none pos.line X.env = pure false := by rfl) :
    CS X W (.Expr (.Call (.Attribute o m apos) (ex :: es) [] cpos) pos) (sMethX i c m g np fr) := (ps_expr (pe_methM cm hr ho ha hst hpl ht) hsw).imp fun D σ H q => by
  obtain ⟨e, lk, F, R, s, q⟩ := q
  exact ⟨e, lk, F, R, _, D, s, q, fun v H' F' R' e' r f k' s' _ _ q' => q'.nx s'⟩
/-- x = o.m(args) -/
def sMethA (j i : Nat) (c m : Str) (g : PyData → List PyData → MF) (np : Nat) (fr : Ev → Res (List PyData)) : SS := fun e => onMeth i c m g np fr e fun e' r => .nx (e'.set j (.fz r))
theorem cs_methA (cm : CalleeM X.prog X.w X.K X.mg X.base k c m np g) (hr : Room k X.A) (ho : PE X o (tVar i)) (hN : X.N.Nodup) (hi : X.N[j]? = some n) (hx : Loc X.env.scope n) (ha : CAE X W (ex :: es) fr) (hst : starEach (ex :: es) X.env = (false, eval ex X.env) :: starEach es X.env := by rfl) (hpl : (backTo cpos (starEach es X.env)).any (·.1) = false := by rfl) {pl : Sem Bool}
    (ht : eval (.Call (.Attribute o m apos) (ex :: es) [] cpos) X.env = (do
      let ov ← eval o X.env
      standAt apos.atName
      let (f, first) ← holding [ov] (getMethod ov m pl)
      callWith cpos f first (backTo cpos (starEach (ex :: es) X.env)) (backToKw cpos (keywordEach [] X.env))) := by rfl)
    (hsw : swapsWith (.Call (.Attribute o m apos) (ex :: es) [] cpos) (some (.Name n pos')) pos.line X.env = pure false := by rfl) (hf : X.fn n = true ∨ X.env.scope.names.lookup n = some .local := by first | exact .inl rfl | exact .inr rfl) :
    CS X W (.Assign [.Name n pos'] (.Call (.Attribute o m apos) (ex :: es) [] cpos) pos) (sMethA j i c m g np fr) := (ps_set hN hi hx (pe_methM cm hr ho ha hst hpl ht) hsw hf).imp fun D σ H q => by
  obtain ⟨e, lk, F, R, s, q⟩ := q
  refine ⟨e, lk, F, R, _, D, s, q, fun v H' F' R' e' r f k' s' hfl hrp q' => ?_⟩
  exact q'.nx (s'.setF j (hrp.flat hfl))
/-- return (x.f1, x.f2), all that the instance x holds -/
def sRetPair (i : Nat) (c f1 f2 : Str) : SS := fun e => onRg i e c fun _ kvs => match kvs with
  | [(.str g1, d1), (.str g2, d2)] => if g1 = f1 ∧ g2 = f2 ∧ ¬ g1 = g2 then .rg (.tuple [d1, d2]) else .no
  | _ => .no
theorem cs_retPair {f1 f2 : Str} {p1 p2 tpos : Pos} {kk : Nat} (c : Str) (h1 : ClF X.K X.mg c f1) (h2 : ClF X.K X.mg c f2) (ho : PE X o (tVar i)) (ho2 : PE X ex (tVar i)) (hb : attributeBase o f1 X.env (eval o X.env) = eval o X.env := by rfl) (hb2 : attributeBase ex f2 X.env (eval ex X.env) = eval ex X.env := by rfl)
    (hs : starEach [.Attribute o f1 p1, .Attribute ex f2 p2] X.env = (false, eval (.Attribute o f1 p1) X.env) :: starEach [.Attribute ex f2 p2] X.env := by rfl) (hs2 : starEach [.Attribute ex f2 p2] X.env = (false, eval (.Attribute ex f2 p2) X.env) :: starEach [] X.env := by rfl) :
    CS X W (.Return (some (.Tuple [.Attribute o f1 p1, .Attribute ex f2 p2] kk tpos)) pos) (sRetPair i c f1 f2) :=
  (ps_ret (pe_tup (pa_cons (pe_fld ho hb) (pa_cons (pe_fld ho2 hb2) pa_nil hs2) hs))).imp fun D σ H q => by
  obtain ⟨e, lk, F, R, s, q⟩ := q
  obtain ⟨z, kvs, he, hz, q⟩ := onRg_ok q
  obtain ⟨u, hu, hown, _⟩ := s.getR he hz
  obtain ⟨a, C, dx, fs, gs, as, rfl, rfl, hpa, hm, hnm, nd, hrr⟩ := own_ins hown
  match gs, fs, hnm, hrr, q with
  | [(g1, d1), (g2, d2)], [(g1', w1), (g2', w2)], hnm, hrr, q =>
    simp only [List.map_cons, List.map_nil, List.cons.injEq, and_true] at hnm
    obtain ⟨rfl, rfl⟩ := hnm
    have q3 : fin X.K X.mg W lk F R D (if g1' = f1 ∧ g2' = f2 ∧ ¬ g1' = g2' then .rg (.tuple [d1, d2]) else .no) := q
    by_cases hc : g1' = f1 ∧ g2' = f2 ∧ ¬ g1' = g2'
    · rw [if_pos hc] at q3
      obtain ⟨rfl, rfl, hne⟩ := hc
      have hH := s.rh (.sl i) _ _ hpa
      have l1 : ([(g1', w1), (g2', w2)] : List (Str × V)).lookup g1' = some w1 := by simp [List.lookup]
      have l2 : ([(g1', w1), (g2', w2)] : List (Str × V)).lookup g2' = some w2 := by
        have : (g2' == g1') = false := beq_eq_false_iff_ne.mpr fun h => hne h.symm
        simp [List.lookup, this]
      obtain ⟨c1, n1⟩ := h1 C hm
      obtain ⟨c2, n2⟩ := h2 C hm
      refine ⟨.ref a, hu, a, C, dx, _, w1, rfl, hH, c1, n1, l1, .ref a, hu, a, C, dx, _, w2, rfl, hH, c2, n2, l2, by show 2 ≤ sizeLine; decide, fun t ht => ?_⟩
      have hnt : R (.sl i) t = none := s.newR ht _
      have nd2 := List.nodup_cons.mp nd
      refine q3 (.ref t) _ F R (upd (R (.sl i)) t (.tup [w1, w2])) (Same.refl _) (KeepR.refl _) (s.heap (same_upd ht)).bare (fun b o q => ?_) (fun b q => ?_) ⟨t :: as, List.nodup_cons.mpr ⟨fun hb => hrr.has t hb hnt, nd2.2⟩, .tup upd_same (hrr.frame fun b hb => upd_ne fun h => hrr.has b hb (h ▸ hnt))⟩
      · by_cases hb : b = t
        · subst hb
          rw [upd_same] at q ⊢
          exact q
        · rw [upd_ne hb] at q ⊢
          exact s.rh (.sl i) _ _ q
      · by_cases hb : b = t
        · subst hb
          exact ⟨s.newF ht, s.newR ht _⟩
        · rw [upd_ne hb] at q
          exact ⟨s.rf _ b q, s.rr (.sl i) .base b (by intro h; cases h) q⟩
    · rw [if_neg hc] at q3
      exact q3.elim
  | [], _, _, _, q => exact q.elim
  | [_], _, _, _, q => exact q.elim
  | _ :: _ :: _ :: _, _, _, _, q => exact q.elim
  | [_, _], [], hnm, _, _ => cases hnm
  | [_, _], [_], hnm, _, _ => simp at hnm
  | [_, _], _ :: _ :: _ :: _, hnm, _, _ => simp at hnm
end
section
variable {X : Cx} {W : WX} {x : Str} {p pos : Pos} {ex : Expr} {es : List Expr} {fr : Ev → Res (List PyData)} {g : List PyData → RF} {k np : Nat}
theorem SR.still {K : PySem.W.Frag} {mg : Str → Option Value} {lk : Lk} {F H G : Hp} {R : Ix → Hp} {σ : Sg} {e : Ev} (s : SR K mg lk F R σ H e) (hG : Same G H) (hn : ∀ a, G a ≠ none → F a = none ∧ ∀ j, R j a = none) : Same F (jn F G) ∧ Same G (jn F G) ∧ SR K mg lk (jn F G) R σ H e := by
  have f1 : Same F (jn F G) := fun b o q => by rw [jn_l (by rw [q]; intro z; cases z)]; exact q
  have f2 : Same G (jn F G) := fun b o q => by rw [jn_r (hn b (by rw [q]; intro z; cases z)).1]; exact q
  refine ⟨f1, f2, s.len, fun b o q => ?_, s.rh, s.rr, fun j a q => ?_, s.hid, fun i y q => (s.at_ i y q).mono f1⟩
  · cases hF : F b with
    | some u => rw [jn_l (by rw [hF]; intro z; cases z), hF] at q; cases q; exact s.fh _ _ hF
    | none => rw [jn_r hF] at q; exact hG _ _ q
  · cases hj : jn F G a with
    | none => rfl
    | some u =>
      rcases jn_or (show jn F G a ≠ none by rw [hj]; intro z; cases z) with h | h
      · exact absurd (s.rf j a q) h
      · exact absurd ((hn a h).2 j) q
/-- a call that gives a new region, which stands still from then on -/
theorem ce_callG {f : Ev → Res PyData} {ee : Expr} (h : CG X W ee f) : CE X W ee f := h.imp fun σ H Q q => by
  obtain ⟨e, lk, F, R, s, q⟩ := q
  refine ⟨e, lk, F, R, s, ?_⟩
  cases hf : f e with
  | no => rw [hf] at q; exact q.elim
  | ex c => rw [hf] at q; exact q
  | ok d =>
    rw [hf] at q
    intro v H1 F1 f1 g1 s1 p1
    obtain ⟨G, hG, hn, ho⟩ := p1
    obtain ⟨k1, k2, k3⟩ := s1.still hG hn
    exact q v H1 _ (f1.trans k1) g1 k3 (ho.rp.mono k2)
end
end VL
end
section
set_option Elab.async false
set_option linter.all false
set_option maxRecDepth 100000
set_option autoImplicit false
set_option maxHeartbeats 4000000
/-! The value layer: a dict handed to a def, which puts into it (the def calls itself with it). -/
namespace VL
open PySem PySem.Spec PyProof.Rows L2
abbrev DK := List (List Int × Int)
inductive DF where
  | ok (kvs : DK) (r : Int)
  | no
def finD (p : Addr) : Out → DF
  | .rs e (.int r) => (match (e[1]? : Option Slot) with
    | some (.ob (.dpin q kvs)) => if q = p then .ok kvs r else .no
    | _ => .no)
  | _ => .no
def runD (b : SS) (n : Nat) (p : Addr) (d : PyData) (kvs : DK) : DF := finD p (b (.fz d :: .ob (.dpin p kvs) :: List.replicate (n - 2) .no))
def okD (p : Addr) (H : Hp) (Q : VK) : DF → Prop
  | .ok kvs r => ∀ H', (∀ b o, b ≠ p → H b = some o → H' b = some o) → H' p = some (.dT (dctV kvs)) → Q (.int r) H'
  | .no => False
/-- the promise of a def of a datum and a dict -/
def spD (K : PySem.W.Frag) (mg : Str → Option Value) (g : Addr → PyData → DK → DF) : Sp := fun vs H Q _ => ∃ u p F d kvs, vs = [u, .ref p] ∧ H p = some (.dT (dctV kvs)) ∧ Same F H ∧ F p = none ∧ Rp K mg F u d ∧ okD p H Q (g p d kvs)
def baseD (F : Hp) (p : Addr) (o : HO) (H : Hp) : Ix → Hp
  | .base => fun a => if (F a).isSome = true ∨ a = p then none else H a
  | .sl 1 => one p o
  | _ => fun _ => none
theorem baseD_at {F H : Hp} {p : Addr} {o : HO} {a : Addr} (hf : F a = none) (hg : a ≠ p) : baseD F p o H .base a = H a := by
  show (if (F a).isSome = true ∨ a = p then none else H a) = H a
  rw [if_neg]
  rintro (h | h)
  · rw [hf] at h; cases h
  · exact hg h
theorem baseD_ne {F H : Hp} {p : Addr} {o : HO} {j : Ix} {a : Addr} (q : baseD F p o H j a ≠ none) : (j = .base ∧ F a = none ∧ a ≠ p ∧ H a ≠ none) ∨ (j = .sl 1 ∧ a = p) := by
  cases j with
  | sl i =>
    by_cases hi : i = 1
    · subst hi
      exact .inr ⟨rfl, one_ne q⟩
    · have : baseD F p o H (.sl i) = fun _ => none := by
        unfold baseD
        split
        · rename_i h; cases h
        · rename_i h; cases h; exact absurd rfl hi
        · rfl
      rw [this] at q
      exact absurd rfl q
  | hid D => exact absurd rfl q
  | base =>
    have q' : (if (F a).isSome = true ∨ a = p then none else H a) ≠ none := q
    cases hx : F a with
    | some o =>
      rw [hx] at q'
      exact absurd (if_pos (.inl rfl)) q'
    | none =>
      by_cases ha : a = p
      · exact absurd (if_pos (.inr ha)) q'
      · rw [if_neg (by rintro (h | h); (rw [hx] at h; cases h); exact ha h)] at q'
        exact .inl ⟨rfl, rfl, ha, q'⟩
theorem baseD_1 {F H : Hp} {p : Addr} {o : HO} : baseD F p o H (.sl 1) = one p o := rfl
section
variable {P : Program} {w : World} {K : PySem.W.Frag} {mg : Str → Option Value} {base : Heap}
theorem fn_dct {x qual : Str} {st : Stmt} {f : Addr} {fd : FuncData} {N ps : List Str} {k n : Nat} {g : Addr → PyData → DK → DF} (b : SS) (Fn : Fun K x qual st f fd) (S : FnScope N ps (defScope st)) (h1 : ps.length = 2) (h2 : N.length = n) (h3 : 2 ≤ n) (hg : g = runD b n)
    (hbody : ∀ (cdv : Value) (A : Around) (outer : List Env) (s : Shared) (H : Hp) (E : XK), Room k (A.deeper (envOfC qual (defScope st) s.heap.objs.size f cdv)) →
      CSs (cxOf (L2.CX P w) P w K mg base N qual (defScope st) f cdv A outer s H E) (fun cls d _ H => E cls d H) (defBody st) b) :
    FnOk P w K mg base (L2.CX P w) (k + 1) f fd ps (spD K mg g) := by
  subst h2 hg
  refine Fn.okX S (fun vs H Q E h => ?_) (fun cdv A outer s H vs Q E hr h => ?_)
  · obtain ⟨u, p, F, d, kvs, rfl, _⟩ := h
    rw [h1]
    rfl
  · obtain ⟨u, p, F, d, kvs, rfl, hp, hF, hd, hR, q⟩ := h
    refine ⟨_, hbody cdv A outer s H E hr, .fz d :: .ob (.dpin p kvs) :: List.replicate (N.length - 2) .no, fun _ => none, F, baseD F p (.dT (dctV kvs)) H, ?_, ?_⟩
    · refine ⟨?_, hF, fun j a o q => ?_, fun j k a hn q => ?_, fun j a q => ?_, fun D a q => ?_, fun i sl q => ?_⟩
      · unfold L2.start
        simp
      · rcases baseD_ne (F := F) (H := H) (p := p) (o := .dT (dctV kvs)) (j := j) (a := a) (by rw [q]; intro h; cases h) with ⟨rfl, hf, hg, _⟩ | ⟨rfl, rfl⟩
        · rw [baseD_at hf hg] at q
          exact q
        · rw [baseD_1, one_same] at q
          cases q
          exact hp
      · rcases baseD_ne q with ⟨rfl, hf, hg, _⟩ | ⟨rfl, rfl⟩
        · cases hx : baseD F p (.dT (dctV kvs)) H k a with
          | none => rfl
          | some u =>
            rcases baseD_ne (F := F) (H := H) (p := p) (o := .dT (dctV kvs)) (j := k) (a := a) (by rw [hx]; intro h; cases h) with ⟨rfl, _⟩ | ⟨rfl, rfl⟩
            · exact absurd rfl hn
            · exact absurd rfl hg
        · cases hx : baseD F a (.dT (dctV kvs)) H k a with
          | none => rfl
          | some u =>
            rcases baseD_ne (F := F) (H := H) (p := a) (o := .dT (dctV kvs)) (j := k) (a := a) (by rw [hx]; intro h; cases h) with ⟨_, _, hg', _⟩ | ⟨rfl, _⟩
            · exact absurd rfl hg'
            · exact absurd rfl hn
      · rcases baseD_ne q with ⟨rfl, hf, _, _⟩ | ⟨rfl, rfl⟩
        · exact hf
        · exact hd
      · rcases baseD_ne q with ⟨h, _⟩ | ⟨h, _⟩ <;> cases h
      · unfold L2.start
        match i, q with
        | 0, q =>
          simp at q
          subst q
          exact ⟨u, by simp, hR⟩
        | 1, q =>
          simp at q
          subst q
          exact ⟨.ref p, by simp, rfl, baseD_1⟩
        | i + 2, q =>
          simp only [List.getElem?_cons_succ] at q
          have := List.mem_of_getElem? q
          rw [List.mem_replicate] at this
          rw [this.2]
          trivial
    · unfold runD at q
      cases ho : b (.fz d :: .ob (.dpin p kvs) :: List.replicate (N.length - 2) .no) with
      | rs e' r =>
        rw [ho] at q
        cases r with
        | int r =>
          unfold finD at q
          dsimp only at q
          split at q
          · rename_i p' kvs' h0
            by_cases hpp : p' = p
            · subst hpp
              rw [if_pos rfl] at q
              intro v σ' H' F' R' f k s pr
              cases pr with
              | int r =>
                obtain ⟨v, _, rfl, hr1⟩ := s.at_ 1 _ h0
                refine q H' (fun a o ha z => ?_) (s.rh (.sl 1) _ _ (by rw [hr1, one_same]))
                cases hx : F a with
                | some u =>
                  have := hF _ _ hx
                  rw [z] at this
                  cases this
                  exact s.fh _ _ (f _ _ hx)
                | none =>
                  refine s.rh .base _ _ ?_
                  rw [k.1, baseD_at hx ha]
                  exact z
            · rw [if_neg hpp] at q
              exact q.elim
          · exact q.elim
        | none => exact q.elim
        | bool _ => exact q.elim
        | str _ => exact q.elim
        | list _ => exact q.elim
        | tuple _ => exact q.elim
        | dict _ => exact q.elim
      | nx e' => rw [ho] at q; exact q.elim
      | rt d => rw [ho] at q; exact q.elim
      | rl es => rw [ho] at q; exact q.elim
      | rg d => rw [ho] at q; exact q.elim
      | ex c e' => rw [ho] at q; exact q.elim
      | bk e' => rw [ho] at q; exact q.elim
      | ct e' => rw [ho] at q; exact q.elim
      | no => rw [ho] at q; exact q.elim
structure CalleeD (P : Program) (w : World) (K : PySem.W.Frag) (mg : Str → Option Value) (base : Heap) (k : Nat) (x : Str) (g : Addr → PyData → DK → DF) : Prop where
  ex : ∃ f fd ps, ps.length = 2 ∧ mg x = some (.ref f) ∧ PySem.W.keepIn K (.ref f) = true ∧ Binds K fd ps [] ∧ FnOk P w K mg base (L2.CX P w) k f fd ps (spD K mg g)
theorem CalleeD.mono {k k' : Nat} {x : Str} {g : Addr → PyData → DK → DF} (c : CalleeD P w K mg base k x g) (h : k ≤ k') : CalleeD P w K mg base k' x g := by
  obtain ⟨f, fd, ps, a, b, c, d, e⟩ := c.ex
  exact ⟨f, fd, ps, a, b, c, d, e.mono h⟩
end
section
variable {K : PySem.W.Frag} {mg : Str → Option Value} {lk : Nat → Option (Addr × List V)} {F H H' : Hp} {R : Ix → Hp} {σ : Sg} {e : Ev}
theorem SR.dpin (s : SR K mg lk F R σ H e) {i : Nat} {p : Addr} {kvs : DK} (he : e[i]? = some (.ob (.dpin p kvs))) : σ[i]? = some (some (.ref p)) ∧ H p = some (.dT (dctV kvs)) ∧ F p = none ∧
    ∀ kvs' H', (∀ b u, b ≠ p → H b = some u → H' b = some u) → H' p = some (.dT (dctV kvs')) → SR K mg lk F (slO R i p (.dT (dctV kvs'))) σ H' (e.set i (.ob (.dpin p kvs'))) := by
  obtain ⟨v, hx, rfl, hr⟩ := s.at_ i _ he
  have h1 : H p = some (.dT (dctV kvs)) := s.rh (.sl i) _ _ (by rw [hr, one_same])
  have nf : F p = none := s.rf (.sl i) p (by rw [hr, one_same]; intro h; cases h)
  have nr : ∀ j, j ≠ .sl i → R j p = none := fun j hj => s.rr (.sl i) j p (Ne.symm hj) (by rw [hr, one_same]; intro h; cases h)
  exact ⟨hx, h1, nf, fun kvs' H' hH hp => s.ownO (q := .dpin p kvs') nf nr hH hp ⟨rfl, rfl⟩ rfl (fun _ => hx) fun _ _ => rfl⟩
end
section
variable {X : Cx} {W : WX} {a b x : Expr} {fa fb : Ev → Res PyData} {pos pos' pos2 dpos p p1 p2 : Pos} {i j k : Nat} {n m : Str}
def dInP (i : Nat) (fa : Ev → Res PyData) : Ev → Res Bool := fun e => (fa e).bind fun d => match e[i]?, keyI d with
  | some (.ob (.dpin _ kvs)), some k => .ok (lookI kvs k).isSome
  | _, _ => .no
theorem ct_dinP (hu : X.A.units + 1 < cLine) (ha : CB X W a fa) (hd : PE X b (tVar i)) (h1 : behindInMarks .In b = false := by first | exact nobehind _ (by decide) (by decide) | rfl) : CT X W (.Compare a [.In] [b] pos) (dInP i fa) := (pt_cmp (pc_din hu ha hd) h1).imp fun σ H Q q => by
  obtain ⟨e, lk, F, R, s, q⟩ := q
  refine ⟨e, lk, F, R, s, resOk.bind q fun d v H1 F1 f1 g1 s1 p1 q1 => ?_⟩
  split at q1
  · rename_i p kvs k he hk
    obtain ⟨hx, hp, _⟩ := s1.dpin he
    obtain ⟨bb, rfl, hb⟩ := key_rp p1 hk
    refine ⟨_, hx, p, _, rfl, DGet.t hp hb, _, rfl, ?_⟩
    rw [look_eq, Option.isSome_map]
    exact q1.fin s1 rfl
  · exact q1.elim
def dNotP (i : Nat) (fa : Ev → Res PyData) : Ev → Res Bool := fun e => (fa e).bind fun d => match e[i]?, keyI d with
  | some (.ob (.dpin _ kvs)), some k => .ok (!(lookI kvs k).isSome)
  | _, _ => .no
theorem ct_dnotP (hu : X.A.units + 1 < cLine) (ha : CB X W a fa) (hd : PE X b (tVar i)) (h1 : behindInMarks .NotIn b = false := by first | exact nobehind _ (by decide) (by decide) | rfl) : CT X W (.Compare a [.NotIn] [b] pos) (dNotP i fa) := (pt_cmp (pc_dnotin hu ha hd) h1).imp fun σ H Q q => by
  obtain ⟨e, lk, F, R, s, q⟩ := q
  refine ⟨e, lk, F, R, s, resOk.bind q fun d v H1 F1 f1 g1 s1 p1 q1 => ?_⟩
  split at q1
  · rename_i p kvs k he hk
    obtain ⟨hx, hp, _⟩ := s1.dpin he
    obtain ⟨bb, rfl, hb⟩ := key_rp p1 hk
    refine ⟨_, hx, p, _, rfl, DGet.t hp hb, _, rfl, ?_⟩
    rw [look_eq, Option.isSome_map]
    exact q1.fin s1 rfl
  · exact q1.elim
def dGetP (i : Nat) (fb : Ev → Res PyData) : Ev → Res PyData := fun e => match e[i]? with
  | some (.ob (.dpin _ kvs)) => (fb e).bind fun d => match keyI d with
    | some k => (match lookI kvs k with
      | some v => .ok (.int v)
      | none => .no)
    | none => .no
  | _ => .no
theorem ce_dgetP (hu : X.A.units + 1 < cLine) (hd : PE X a (tVar i)) (hb : CB X W b fb) (hs : NoSl b) : CE X W (.Subscript a b pos) (dGetP i fb) := (pe_dget hu hd hb hs).imp fun σ H Q q => by
  obtain ⟨e, lk, F, R, s, q⟩ := q
  unfold dGetP at q
  split at q
  · rename_i p kvs he
    obtain ⟨hx, hp, _⟩ := s.dpin he
    refine ⟨_, hx, e, lk, F, R, s, resOk.bind q fun d v H1 F1 f1 g1 s1 p1 q1 => ?_⟩
    split at q1
    · rename_i k hk
      split at q1
      · rename_i w hw
        obtain ⟨bb, rfl, hb⟩ := key_rp p1 hk
        refine ⟨p, .int w, rfl, ?_, q1.fin s1 (.int w)⟩
        have := DGet.t (g1 _ _ hp) hb
        rw [look_eq, hw] at this
        exact this
      · exact q1.elim
    · exact q1.elim
  · exact q.elim
def sDPutP (i : Nat) (fk fv : Ev → Res PyData) : SS := fun e => match fv e with
  | .ok (.int v) => (match e[i]? with
    | some (.ob (.dpin p kvs)) => (match fk e with
      | .ok d => (match keyI d with
        | some k => if small kvs.length then .nx (e.set i (.ob (.dpin p (putI kvs k v)))) else .no
        | none => .no)
      | _ => .no)
    | _ => .no)
  | _ => .no
theorem cs_dputP {xv : Expr} {fv : Ev → Res PyData} (hu : X.A.units + 1 < cLine) (hd : PE X a (tVar i)) (hk : CB X W b fb) (hv : CE X W xv fv) (hs : swapsWith xv (some (.Subscript a b pos')) pos.line X.env = pure false := by rfl) :
    CS X W (.Assign [.Subscript a b pos'] xv pos) (sDPutP i fb fv) := (ps_dput hu hd hk hv hs).imp fun D σ H q => by
  obtain ⟨e, lk, F, R, s, q⟩ := q
  unfold sDPutP at q
  refine ⟨e, lk, F, R, s, ?_⟩
  cases hf : fv e with
  | ex c => rw [hf] at q; exact q.elim
  | no => rw [hf] at q; exact q.elim
  | ok dv =>
    rw [hf] at q
    intro vv H1 F1 f1 g1 s1 p1
    cases p1 with
    | int v =>
      dsimp only at q
      split at q
      · rename_i p kvs he
        obtain ⟨hx, hp, _⟩ := s1.dpin he
        refine ⟨_, hx, e, lk, F1, R, s1, ?_⟩
        cases hk2 : fb e with
        | ex c => rw [hk2] at q; exact q.elim
        | no => rw [hk2] at q; exact q.elim
        | ok d =>
          rw [hk2] at q
          intro kv H2 F2 f2 g2 s2 p2
          dsimp only at q
          cases hki : keyI d with
          | none => rw [hki] at q; exact q.elim
          | some k =>
            rw [hki] at q
            dsimp only at q
            by_cases hsm : small kvs.length = true
            · rw [if_pos hsm] at q
              obtain ⟨bb, rfl, hb⟩ := key_rp p2 hki
              obtain ⟨hx', hp', _, hput⟩ := s2.dpin he
              refine ⟨p, _, rfl, DPut.t hp' hb ?_, ?_⟩
              · unfold dctV
                rw [List.length_map]
                exact Nat.lt_of_le_of_lt (of_decide_eq_true hsm : kvs.length ≤ 100000) (by decide)
              · rw [put_eq]
                exact q _ _ F2 _ (f1.trans f2) KeepR.slO (hput _ _ (fun b u hb z => by rw [upd_ne hb]; exact z) upd_same)
            · rw [if_neg hsm] at q
              exact q.elim
      · exact q.elim
    | non => exact q.elim
    | bl _ => exact q.elim
    | str _ => exact q.elim
    | lst _ _ => exact q.elim
    | tup _ _ => exact q.elim
    | ins _ _ _ _ => exact q.elim
    | scr _ => exact q.elim
theorem pass_noS {P : Program} {w : World} {X : Cx} (σ : Sg) : PassesAt (L2.CX P w) X σ (fun _ _ _ => False) := fun pins H s e s' _ h => by
  obtain ⟨_, _, _, _, _, _, _, _, _, _, _, _, z⟩ := h
  exact z.elim
/-- x = x + f(a, d), the dict d in the frame's slot i, the number x in slot j -/
def sAddCallD (j i : Nat) (g : Addr → PyData → DK → DF) (fe : Ev → Res PyData) : SS := fun e => match e[j]? with
  | some (.fz (.int m)) => (match fe e with
    | .ok d => (match e[i]? with
      | some (.ob (.dpin p kvs)) => (match g p d kvs with
        | .ok kvs' r => .nx ((e.set i (.ob (.dpin p kvs'))).set j (.fz (.int (m + r))))
        | .no => .no)
      | _ => .no)
    | _ => .no)
  | _ => .no
theorem cs_addCallD {x : Str} {g : Addr → PyData → DK → DF} {xj ed ee : Expr} {fe : Ev → Res PyData} (hij : i ≠ j) (c : CalleeD X.prog X.w X.K X.mg X.base k x g) (hr : Room k X.A) (hg : Gl X x) (hN : X.N.Nodup) (hi : X.N[j]? = some n) (hx : Loc X.env.scope n)
    (hj : PE X xj (tVar j)) (he : CE X W ee fe) (hd : PE X ed (tVar i)) (hdb : (x == ("__debug__" : Str)) = false := by decide) (hst : starEach [ee, ed] X.env = (false, eval ee X.env) :: starEach [ed] X.env := by rfl) (hst2 : starEach [ed] X.env = (false, eval ed X.env) :: starEach [] X.env := by rfl)
    (hpl : (backTo pos2 (starEach [ed] X.env)).any (·.1) = false := by rfl)
    (hsw : swapsWith (.BinOp xj .Add (.Call (.Name x p1) [ee, ed] [] pos2) p2) (some (.Name n pos')) pos.line X.env = pure false := by rfl) (hf : X.fn n = true ∨ X.env.scope.names.lookup n = some .local := by first | exact .inl rfl | exact .inr rfl) :
    CS X W (.Assign [.Name n pos'] (.BinOp xj .Add (.Call (.Name x p1) [ee, ed] [] pos2) p2) pos) (sAddCallD j i g fe) := by
  obtain ⟨f, fd, ps, _, hm, hk, hb, Fo⟩ := c.ex
  refine (ps_set hN hi hx (pe_op op_add hj (pe_callS Fo hr hg hm hk hb pass_noS (pa_cons he (pa_cons hd pa_nil hst2) hst) hdb hst hpl)) hsw hf).imp fun D σ H q => ?_
  obtain ⟨e, lk, F, R, s, q⟩ := q
  unfold sAddCallD at q
  split at q
  · rename_i mm hm2
    obtain ⟨v, hv, hrv⟩ := s.at_ j _ hm2
    cases hrv with
    | int mm =>
      refine ⟨_, hv, e, lk, F, R, s, ?_⟩
      cases hfe : fe e with
      | ex c => rw [hfe] at q; exact q.elim
      | no => rw [hfe] at q; exact q.elim
      | ok d =>
        rw [hfe] at q
        intro u H1 F1 f1 g1 s1 p1
        dsimp only at q
        split at q
        · rename_i p kvs hd2
          obtain ⟨hx1, hp1, hF1, hput⟩ := s1.dpin hd2
          refine ⟨_, hx1, u, p, F1, d, kvs, rfl, hp1, s1.fh, hF1, p1, ?_⟩
          cases hgd : g p d kvs with
          | no => rw [hgd] at q; exact q.elim
          | ok kvs' r =>
            rw [hgd] at q
            intro H' hH hpH
            refine ⟨mm, r, rfl, rfl, ?_⟩
            exact q _ _ F1 _ f1 KeepR.slO ((hput kvs' H' hH hpH).setF j (.int (mm + r)))
        · exact q.elim
  · exact q.elim
open Classical in
/-- return f(a, {}) -/
noncomputable def sRetCallD0 (g : Addr → PyData → DK → DF) (fe : Ev → Res PyData) : SS := fun e => thn (fe e) e fun d =>
  if h : ∃ r : Int, ∀ p, ∃ kvs, g p d [] = .ok kvs r then .rt (.int (Classical.choose h)) else .no
theorem cs_retCallD0 {x : Str} {g : Addr → PyData → DK → DF} {ee : Expr} {fe : Ev → Res PyData} (c : CalleeD X.prog X.w X.K X.mg X.base k x g) (hr : Room k X.A) (hg : Gl X x) (he : CE X W ee fe)
    (hdb : (x == ("__debug__" : Str)) = false := by decide) (hst : starEach [ee, .Dict [] [] dpos] X.env = (false, eval ee X.env) :: starEach [.Dict [] [] dpos] X.env := by rfl) (hst2 : starEach [.Dict [] [] dpos] X.env = (false, eval (.Dict [] [] dpos) X.env) :: starEach [] X.env := by rfl)
    (hpl : (backTo pos2 (starEach [.Dict [] [] dpos] X.env)).any (·.1) = false := by rfl) :
    CS X W (.Return (some (.Call (.Name x p1) [ee, .Dict [] [] dpos] [] pos2)) pos) (sRetCallD0 g fe) := by
  obtain ⟨f, fd, ps, _, hm, hk, hb, Fo⟩ := c.ex
  refine (ps_ret (pe_callS Fo hr hg hm hk hb pass_noS (pa_cons he (pa_cons pe_dnewT pa_nil hst2) hst) hdb hst hpl)).imp fun D σ H q => ?_
  obtain ⟨e, lk, F, R, s, q⟩ := q
  refine ⟨e, lk, F, R, s, fin.bind q fun d u H1 F1 f1 g1 s1 p1 q1 => ?_⟩
  intro p hp
  by_cases h : ∃ r : Int, ∀ p, ∃ kvs, g p d [] = .ok kvs r
  · rw [dif_pos h] at q1
    obtain ⟨kvs, hk2⟩ := Classical.choose_spec h p
    have s2 := s1.heap (same_upd (o := .dT []) hp)
    refine ⟨u, p, F1, d, [], rfl, upd_same, s2.fh, s1.newF hp, p1, ?_⟩
    rw [hk2]
    intro H' hH _
    have sH : Same H1 H' := fun b o z => hH b o (fun hb => by rw [hb, hp] at z; cases z) (same_upd hp _ _ z)
    exact q1 _ H' F1 R (Same.refl _) (KeepR.refl _) (s1.heap sH).bare (.int _)
  · rw [dif_neg h] at q1
    exact q1.elim
theorem ce_tuple (hg : Gl X "tuple") (hm : X.mg "tuple" = none) (ha : CU X W a fa) (hs : starEach [a] X.env = (false, eval a X.env) :: starEach [] X.env := by rfl) : CE X W (.Call (.Name "tuple" p) [a] [] pos) (b1 fa fun d => ofO (tupD d)) := (pe_tupleOf hg hm ha hs).imp fun σ H Q q => by
  obtain ⟨e, lk, F, R, s, q⟩ := q
  refine ⟨e, lk, F, R, s, resOk.bind q fun d v H1 F1 f1 g1 s1 p1 q1 => ?_⟩
  cases d with
  | list ds =>
    obtain ⟨p, vs, rfl, hh, hr⟩ : ∃ p vs, v = .ref p ∧ SqL X.K H1 p vs ∧ RpA X.K X.mg F1 vs ds := by
      rcases p1 with h | ⟨p, vs, es, rfl, h2, hp, hr⟩
      · cases h with
        | lst hp hr => exact ⟨_, _, rfl, SqL.of (s1.fh _ _ hp), hr⟩
      · cases h2
        exact ⟨p, vs, rfl, SqL.of hp, hr⟩
    refine .inl ⟨p, vs, rfl, hh, fun t ht => ?_⟩
    have s2 := (s1.heap (same_upd ht) (H' := upd H1 t (.tup vs))).keep upd_same (s1.newF ht) (s1.newR ht)
    exact q1 _ _ _ (same_upd (s1.newF ht)) (same_upd ht) s2 (.tup upd_same (hr.mono (same_upd (s1.newF ht))))
  | none => exact q1.elim
  | bool _ => exact q1.elim
  | int _ => exact q1.elim
  | str _ => exact q1.elim
  | tuple _ => exact q1.elim
  | dict _ => exact q1.elim
end
end VL
end
section
set_option Elab.async false
set_option linter.all false
set_option maxRecDepth 100000
set_option autoImplicit false
set_option maxHeartbeats 4000000
/-! printed by mk.py: the plain functions that the laws share -/
namespace PF
open PySem VL
noncomputable section
def f_is_number : SS :=
  (sRetE (vAnd (b1 (bVar 0) fun d => ofO (isiT .int d)) (vAnd (b1 (b1 (bVar 0) fun d => ofO (isiT .bool d)) vNot) (chain (bVar 1) (bVar 0) (bVar 2) leI leI))))
def g_is_number : List PyData → RF := runB f_is_number 3
def f_asked_order : SS :=
  (sSeq (sIf (tOr2 (b1 (b1 (b1 (bVar 0) fun d => ofO (isiT .list d)) asB) bNot) (b1 (b1 (chain (eC (.int 1)) (b1 (aCons (bVar 0) aNil) fun ds => ofO (lenD ds)) (eC (.int 7)) leI leI) asB) bNot)) (sRaise "BadOrder") sNil)
  (sSeq (sFor (.nm 1) [1] (b1 (eVar 0) asL) (sIf (tOr2 (b1 (b1 (b1 (aCons (eVar 1) (aCons (eC (.int 0)) (aCons (b2 (b1 (aCons (bVar 0) aNil) fun ds => ofO (lenD ds)) (eC (.int 1)) fun a b => ofO (subI a b)) aNil))) (callV g_is_number 3)) asB) bNot) (b1 (b2 (bL (bVar 0) (bVar 1) countD) (eC (.int 1)) fun a b => ofO (neD a b)) asB)) (sRaise "BadOrder") sNil))
  (sRetF (b1 (uVar 0) fun d => ofO (listD d)))))
def g_asked_order : List PyData → RF := runB f_asked_order 2
def f_asked_dance : SS :=
  (sSeq (sIf (tOr2 (b1 (b1 (b1 (aCons (eVar 0) (aCons (eC (.int 1)) (aCons (eC (.int 7)) aNil))) (callV g_is_number 3)) asB) bNot) (tOr2 (b1 (b1 (b1 (bVar 1) fun d => ofO (isiT .list d)) asB) bNot) (b1 (b2 (b1 (aCons (bVar 1) aNil) fun ds => ofO (lenD ds)) (eC (.int 30)) fun a b => ofO (gtI a b)) asB))) (sRaise "BadDance") sNil)
  (sSeq (sFor (.nm 2) [2] (b1 (eVar 1) asL) (sIf (b1 (b1 (b1 (aCons (eVar 2) (aCons (eC (.int 0)) (aCons (b2 (bVar 0) (eC (.int 2)) fun a b => ofO (subI a b)) aNil))) (callV g_is_number 3)) asB) bNot) (sRaise "BadDance") sNil))
  (sRetF (b1 (uVar 1) fun d => ofO (listD d)))))
def g_asked_dance : List PyData → RF := runB f_asked_dance 3
def f_at_first : SS :=
  (sRetF (lcF (.nm 1) [1] (b1 (aCons (bVar 0) aNil) fun ds => ofO (rgA1 ds)) tYesF (eVar 1)))
def g_at_first : List PyData → RF := runB f_at_first 2
def f_stepped : SS :=
  (sRetF (b2 (b1 (b2 (b1 (b3 (uVar 0) oNone (b1 (bVar 1) asO) fun d lo hi => ofO (cutD d lo hi)) okL) (b1 (b1 (aCons (b2 (uVar 0) (b2 (bVar 1) (eC (.int 1)) fun a b => ofO (addI a b)) fun a b => ofO (idxD a b)) (aCons (b2 (uVar 0) (bVar 1) fun a b => ofO (idxD a b)) aNil)) capL) okL) fun a b => ofO (catD a b)) okL) (b1 (b3 (uVar 0) (b1 (b2 (bVar 1) (eC (.int 2)) fun a b => ofO (addI a b)) asO) oNone fun d lo hi => ofO (cutD d lo hi)) okL) fun a b => ofO (catD a b)))
def g_stepped : List PyData → RF := runB f_stepped 2
def f_danced : SS :=
  (sSeq (sAsgF 2 (b1 (uVar 0) fun d => ofO (listD d)))
  (sSeq (sFor (.nm 3) [3] (b1 (eVar 1) asL) (sAsgF 2 (b1 (aCons (bVar 2) (aCons (bVar 3) aNil)) (callLB g_stepped 2))))
  (sRetO 2)))
def g_danced : List PyData → RF := runB f_danced 4
def f_order_of : SS :=
  (sSeq (sAsgE 2 (b1 (b1 (aCons (eVar 0) (aCons (eVar 1) aNil)) (callL g_asked_dance 2)) okL))
  (sRetF (b1 (aCons (b1 (b1 (aCons (eVar 0) aNil) (callL g_at_first 1)) okL) (aCons (eVar 2) aNil)) (callL g_danced 2))))
def g_order_of : List PyData → RF := runB f_order_of 3
def f_pairs_in : SS :=
  (sSeq (sAsgF 1 (b1 aNil capL))
  (sSeq (sFor (.tp [2, 3]) [2, 3] (b1 (aCons (eVar 0) aNil) fun ds => ofO (enD ds)) (sExt 1 (lcF (.nm 4) [4] (b1 (b1 (b3 (uVar 0) (b1 (b2 (bVar 2) (eC (.int 1)) fun a b => ofO (addI a b)) asO) oNone fun d lo hi => ofO (cutD d lo hi)) okL) asL) (b1 (b2 (bVar 4) (bVar 3) fun a b => ofO (ltI a b)) asB) (b1 (aCons (eVar 4) (aCons (eVar 3) aNil)) tupL))))
  (sRetF (b1 (uVar 1) fun d => ofO (sortD d)))))
def g_pairs_in : List PyData → RF := runB f_pairs_in 5
def f_crossed : SS :=
  (sRetF (b1 (aCons (b1 (b1 (aCons (eVar 0) aNil) (callL g_asked_order 1)) okL) aNil) (callL g_pairs_in 1)))
def g_crossed : List PyData → RF := runB f_crossed 1
def f_law_cell_at : SS :=
  (sSeq (sIf (b1 (b2 (bVar 1) (b1 (aCons (bVar 0) aNil) fun ds => ofO (lenD ds)) fun a b => ofO (ltI a b)) asB) (sRetE (b2 (uVar 0) (bVar 1) fun a b => ofO (idxD a b))) sNil)
  (sRetE (eC (.int 0))))
def g_law_cell_at : List PyData → RF := runB f_law_cell_at 2
def f_law_draw : SS :=
  (sSeq (sAsgE 3 (b2 (b2 (b2 (b2 (b2 (bVar 0) (eC (.int 1000000007)) fun a b => ofO (modI a b)) (eC (.int 48271)) fun a b => ofO (mulI a b)) (b2 (bVar 1) (eC (.int 69621)) fun a b => ofO (mulI a b)) fun a b => ofO (addI a b)) (eC (.int 7)) fun a b => ofO (addI a b)) (eC (.int 1000000007)) fun a b => ofO (modI a b)))
  (sRetE (b2 (b2 (b2 (b2 (bVar 3) (bVar 3) fun a b => ofO (mulI a b)) (eC (.int 1013)) fun a b => ofO (divI a b)) (eC (.int 1000003)) fun a b => ofO (modI a b)) (bVar 2) fun a b => ofO (modI a b))))
def g_law_draw : List PyData → RF := runB f_law_draw 4
def f_law_dance : SS :=
  (sSeq (sIf (b1 (b2 (bVar 1) (eC (.int 1)) fun a b => ofO (eqD a b)) asB) (sRetF (b1 aNil capL)) sNil)
  (sSeq (sAsgE 3 (b1 (aCons (eVar 0) (aCons (eC (.int 1)) (aCons (b2 (bVar 2) (eC (.int 1)) fun a b => ofO (addI a b)) aNil))) (callV g_law_draw 3)))
  (sRetF (lcF (.nm 4) [4] (b1 (aCons (bVar 3) aNil) fun ds => ofO (rgA1 ds)) tYesF (b1 (aCons (b2 (bVar 0) (b2 (eC (.int 31)) (bVar 4) fun a b => ofO (mulI a b)) fun a b => ofO (addI a b)) (aCons (eC (.int 2)) (aCons (b2 (bVar 1) (eC (.int 1)) fun a b => ofO (subI a b)) aNil))) (callV g_law_draw 3))))))
def g_law_dance : List PyData → RF := runB f_law_dance 5
def f_law_danced : SS :=
  (sSeq (sAsgF 2 (b1 (uVar 0) fun d => ofO (listD d)))
  (sSeq (sFor (.nm 3) [3, 4] (b1 (eVar 1) asL) (sSeq (sAsgE 4 (b2 (uVar 2) (bVar 3) fun a b => ofO (idxD a b)))
  (sSeq (sPut 2 (bVar 3) (b2 (uVar 2) (b2 (bVar 3) (eC (.int 1)) fun a b => ofO (addI a b)) fun a b => ofO (idxD a b)))
  (sPut 2 (b2 (bVar 3) (eC (.int 1)) fun a b => ofO (addI a b)) (eVar 4)))))
  (sRetO 2)))
def g_law_danced : List PyData → RF := runB f_law_danced 5
def f_law_first : SS :=
  (sRetF (lcF (.nm 1) [1] (b1 (aCons (bVar 0) aNil) fun ds => ofO (rgA1 ds)) tYesF (eVar 1)))
def g_law_first : List PyData → RF := runB f_law_first 2
def f_law_pairs : SS :=
  (sSeq (sAsgF 1 (b1 aNil capL))
  (sSeq (sFor (.nm 2) [2, 3] (b1 (aCons (b1 (aCons (bVar 0) aNil) fun ds => ofO (lenD ds)) aNil) fun ds => ofO (rgA1 ds)) (sFor (.nm 3) [3] (b1 (aCons (b2 (bVar 2) (eC (.int 1)) fun a b => ofO (addI a b)) (aCons (b1 (aCons (bVar 0) aNil) fun ds => ofO (lenD ds)) aNil)) fun ds => ofO (rgA2 ds)) (sIf (b1 (b2 (bL (bVar 0) (bVar 3) indexD) (bL (bVar 0) (bVar 2) indexD) fun a b => ofO (ltI a b)) asB) (sApp 1 (b1 (aCons (eVar 2) (aCons (eVar 3) aNil)) tupL)) sNil)))
  (sRetO 1)))
def g_law_pairs : List PyData → RF := runB f_law_pairs 4
def f_law_pairs_right : SS :=
  (sSeq (sAsgE 1 (b1 (b1 (aCons (eVar 0) aNil) (callL g_law_pairs 1)) okL))
  (sSeq (sAsgF 2 (b1 (aCons (eVar 0) aNil) (callL g_crossed 1)))
  (sSeq (sIf (tOr2 (b1 (b1 (b1 (bVar 2) fun d => ofO (isiT .list d)) asB) bNot) (b1 (b2 (bVar 2) (bVar 1) fun a b => ofO (neD a b)) asB)) (sRetE (eC (.bool false))) sNil)
  (sSeq (sForO 2 (.nm 3) [3] (sIf (tOr2 (b1 (b1 (b1 (bVar 3) fun d => ofO (isiT .tuple d)) asB) bNot) (tOr2 (b1 (b1 (b2 (uVar 3) (eC (.int 0)) fun a b => ofO (idxD a b)) fun d => ofO (isiT .bool d)) asB) (b1 (b1 (b2 (uVar 3) (eC (.int 1)) fun a b => ofO (idxD a b)) fun d => ofO (isiT .bool d)) asB))) (sRetE (eC (.bool false))) sNil))
  (sSeq (sApp 2 (b1 (aCons (eC (.int 0)) (aCons (eC (.int 0)) aNil)) tupL))
  (sRetE (b2 (b1 (b1 (aCons (eVar 0) aNil) (callL g_crossed 1)) okL) (bVar 1) fun a b => ofO (eqD a b))))))))
def g_law_pairs_right : List PyData → RF := runB f_law_pairs_right 4
def f_way_to : SS :=
  (sSeq (sAsgE 1 (b1 (b1 (uVar 0) fun d => ofO (listD d)) okL))
  (sSeq (sAsgF 2 (b1 aNil capL))
  (sSeq (sAsgE 3 (eC (.int 0)))
  (sSeq (sWhile (b1 (b2 (b2 (bVar 3) (eC (.int 1)) fun a b => ofO (addI a b)) (b1 (aCons (bVar 1) aNil) fun ds => ofO (lenD ds)) fun a b => ofO (ltI a b)) asB) [] (sIf (b1 (b2 (b2 (uVar 1) (bVar 3) fun a b => ofO (idxD a b)) (b2 (uVar 1) (b2 (bVar 3) (eC (.int 1)) fun a b => ofO (addI a b)) fun a b => ofO (idxD a b)) fun a b => ofO (gtI a b)) asB) (sSeq (sAsgE 1 (b1 (b1 (aCons (eVar 1) (aCons (eVar 3) aNil)) (callL g_stepped 2)) okL))
  (sSeq (sApp 2 (eVar 3))
  (sAsgE 3 (eC (.int 0))))) (sAsgE 3 (b2 (bVar 3) (eC (.int 1)) fun a b => ofO (addI a b)))) 1000)
  (sRetF (b1 (uVar 2) fun d => ofO (revD d)))))))
def g_way_to : List PyData → RF := runB f_way_to 4
def f_shortest : SS :=
  (sRetF (b1 (aCons (b1 (b1 (aCons (eVar 0) aNil) (callL g_asked_order 1)) okL) aNil) (callL g_way_to 1)))
def g_shortest : List PyData → RF := runB f_shortest 1
def f_crossings : SS :=
  (sSeq (sAsgE 2 (b1 (b1 (aCons (eVar 0) aNil) (callL g_at_first 1)) okL))
  (sSeq (sAsgF 3 (b1 aNil capL))
  (sSeq (sFor (.nm 4) [4] (b1 (eVar 1) asL) (sSeq (sApp 3 (b1 (aCons (b1 (aCons (b2 (uVar 2) (bVar 4) fun a b => ofO (idxD a b)) (aCons (b2 (uVar 2) (b2 (bVar 4) (eC (.int 1)) fun a b => ofO (addI a b)) fun a b => ofO (idxD a b)) aNil)) fun ds => ofO (minD2 ds)) (aCons (b1 (aCons (b2 (uVar 2) (bVar 4) fun a b => ofO (idxD a b)) (aCons (b2 (uVar 2) (b2 (bVar 4) (eC (.int 1)) fun a b => ofO (addI a b)) fun a b => ofO (idxD a b)) aNil)) fun ds => ofO (maxD2 ds)) aNil)) tupL))
  (sAsgE 2 (b1 (b1 (aCons (eVar 2) (aCons (eVar 4) aNil)) (callL g_stepped 2)) okL))))
  (sRetO 3))))
def g_crossings : List PyData → RF := runB f_crossings 5
def f_is_shortest : SS :=
  (sSeq (sAsgE 2 (b1 (b1 (aCons (eVar 0) (aCons (b1 (b1 (aCons (eVar 0) (aCons (eVar 1) aNil)) (callL g_asked_dance 2)) okL) aNil)) (callL g_crossings 2)) okL))
  (sRetE (b2 (b1 (uVar 2) fun d => ofO (lenSetD d)) (b1 (aCons (bVar 2) aNil) fun ds => ofO (lenD ds)) fun a b => ofO (eqD a b))))
def g_is_shortest : List PyData → RF := runB f_is_shortest 3
def f_law_order : SS :=
  (sSeq (sAsgF 2 (lcF (.nm 6) [6] (b1 (aCons (bVar 1) aNil) fun ds => ofO (rgA1 ds)) tYesF (eVar 6)))
  (sSeq (sAsgE 3 (b1 (aCons (eVar 0) (aCons (eC (.int 3)) (aCons (eC (.int 9)) aNil))) (callV g_law_draw 3)))
  (sSeq (sIf (b1 (b2 (bVar 3) (eC (.int 0)) fun a b => ofO (eqD a b)) asB) (sRetO 2) sNil)
  (sSeq (sIf (b1 (b2 (bVar 3) (eC (.int 1)) fun a b => ofO (eqD a b)) asB) (sRetF (b1 (uVar 2) fun d => ofO (revD d))) sNil)
  (sSeq (sIf (tAnd2 (b1 (b2 (bVar 3) (eC (.int 2)) fun a b => ofO (eqD a b)) asB) (b1 (b2 (bVar 1) (eC (.int 1)) fun a b => ofO (gtI a b)) asB)) (sSeq (sAsgE 5 (b1 (aCons (eVar 0) (aCons (eC (.int 4)) (aCons (b2 (bVar 1) (eC (.int 1)) fun a b => ofO (subI a b)) aNil))) (callV g_law_draw 3)))
  (sRetF (b2 (b1 (b2 (b1 (b3 (uVar 2) oNone (b1 (bVar 5) asO) fun d lo hi => ofO (cutD d lo hi)) okL) (b1 (b1 (aCons (b2 (uVar 2) (b2 (bVar 5) (eC (.int 1)) fun a b => ofO (addI a b)) fun a b => ofO (idxD a b)) (aCons (b2 (uVar 2) (bVar 5) fun a b => ofO (idxD a b)) aNil)) capL) okL) fun a b => ofO (catD a b)) okL) (b1 (b3 (uVar 2) (b1 (b2 (bVar 5) (eC (.int 2)) fun a b => ofO (addI a b)) asO) oNone fun d lo hi => ofO (cutD d lo hi)) okL) fun a b => ofO (catD a b)))) sNil)
  (sSeq (sAsgF 4 (b1 aNil capL))
  (sSeq (sWhile (b1 (b2 (bVar 2) (b1 (b1 aNil capL) okL) fun a b => ofO (neD a b)) asB) [] (sAppPop 4 2 (b1 (aCons (eVar 0) (aCons (b2 (eC (.int 5)) (b1 (aCons (bVar 2) aNil) fun ds => ofO (lenD ds)) fun a b => ofO (addI a b)) (aCons (b1 (aCons (bVar 2) aNil) fun ds => ofO (lenD ds)) aNil))) (callV g_law_draw 3))) 1000)
  (sRetO 4))))))))
def g_law_order : List PyData → RF := runB f_law_order 7
def f_law_numbers : SS :=
  (sSeq (sIf (b1 (b1 (b1 (bVar 0) fun d => ofO (isiT .list d)) asB) bNot) (sRetE (eC (.bool false))) sNil)
  (sRetE (b1 (aCons (b1 (lcF (.nm 2) [2] (b1 (uVar 0) asL) tYesF (vAnd (b1 (bVar 2) fun d => ofO (isiT .int d)) (vAnd (b1 (b1 (bVar 2) fun d => ofO (isiT .bool d)) vNot) (chain (eC (.int 0)) (bVar 2) (bVar 1) leI ltI)))) okL) aNil) fun ds => ofO (allD ds))))
def g_law_numbers : List PyData → RF := runB f_law_numbers 3
def f_law_shortest : SS :=
  (sSeq (sAsgE 2 (b1 (b1 (uVar 0) fun d => ofO (listD d)) okL))
  (sSeq (sAsgF 3 (b1 aNil capL))
  (sSeq (sWhile (b1 (b2 (b1 (b1 (aCons (eVar 2) aNil) (callL g_law_pairs 1)) okL) (b1 (b1 aNil capL) okL) fun a b => ofO (neD a b)) asB) [4, 5] (sSeq (sAsgE 4 (b1 (lcF (.nm 5) [5] (b1 (aCons (b2 (b1 (aCons (bVar 2) aNil) fun ds => ofO (lenD ds)) (eC (.int 1)) fun a b => ofO (subI a b)) aNil) fun ds => ofO (rgA1 ds)) (b1 (b2 (b2 (uVar 2) (bVar 5) fun a b => ofO (idxD a b)) (b2 (uVar 2) (b2 (bVar 5) (eC (.int 1)) fun a b => ofO (addI a b)) fun a b => ofO (idxD a b)) fun a b => ofO (gtI a b)) asB) (eVar 5)) okL))
  (sSeq (sAsgE 5 (b2 (uVar 4) (b1 (aCons (eVar 1) (aCons (b1 (aCons (bVar 3) aNil) fun ds => ofO (lenD ds)) (aCons (b1 (aCons (bVar 4) aNil) fun ds => ofO (lenD ds)) aNil))) (callV g_law_draw 3)) fun a b => ofO (idxD a b)))
  (sSeq (sApp 3 (eVar 5))
  (sAsgE 2 (b1 (b1 (aCons (eVar 2) (aCons (b1 (b1 (aCons (eVar 5) aNil) capL) okL) aNil)) (callL g_law_danced 2)) okL))))) 1000)
  (sRetF (b1 (uVar 3) fun d => ofO (revD d))))))
def g_law_shortest : List PyData → RF := runB f_law_shortest 6
def f_law_crosses_once : SS :=
  (sSeq (sAsgE 2 (b1 (b1 (aCons (eVar 0) aNil) (callL g_law_first 1)) okL))
  (sSeq (sAsgF 3 (b1 aNil capL))
  (sSeq (sFor (.nm 4) [4, 5] (b1 (eVar 1) asL) (sSeq (sAsgE 5 (b1 (b1 (b1 (b3 (uVar 2) (b1 (bVar 4) asO) (b1 (b2 (bVar 4) (eC (.int 2)) fun a b => ofO (addI a b)) asO) fun d lo hi => ofO (cutD d lo hi)) okL) fun d => ofO (sortD d)) okL))
  (sSeq (sIf (b1 (b2 (bVar 5) (bVar 3) fun a b => ofO ((inD false) a b)) asB) (sRetE (eC (.bool false))) sNil)
  (sSeq (sApp 3 (eVar 5))
  (sAsgE 2 (b1 (b1 (aCons (eVar 2) (aCons (b1 (b1 (aCons (eVar 4) aNil) capL) okL) aNil)) (callL g_law_danced 2)) okL))))))
  (sRetE (eC (.bool true))))))
def g_law_crosses_once : List PyData → RF := runB f_law_crosses_once 6
def f_left_out : SS :=
  (sSeq (sDNew 2)
  (sSeq (sFor (.tp [3, 4]) [3, 4] (b1 (aCons (b1 (b1 (aCons (eVar 0) (aCons (b1 (b1 (aCons (eVar 0) (aCons (eVar 1) aNil)) (callL g_asked_dance 2)) okL) aNil)) (callL g_crossings 2)) okL) aNil) fun ds => ofO (enD ds)) (sSeq (sIf (dInE 2 (bVar 4)) (sRetE (b1 (aCons (dGetE 2 (bVar 4)) (aCons (eVar 3) aNil)) tupL)) sNil)
  (sDPutI 2 (bVar 4) (eVar 3))))
  (sRetE (eC .none))))
def g_left_out : List PyData → RF := runB f_left_out 5
def f_inside_out : SS :=
  (sRetF (lcF (.nm 1) [1] (b1 (aCons (b1 (aCons (bVar 0) aNil) fun ds => ofO (lenD ds)) aNil) fun ds => ofO (rgA1 ds)) tYesF (bL (bVar 0) (bVar 1) indexD)))
def g_inside_out : List PyData → RF := runB f_inside_out 2
def f_back : SS :=
  (sRetF (b1 (aCons (b1 (b1 (aCons (eVar 0) aNil) (callL g_asked_order 1)) okL) aNil) (callL g_inside_out 1)))
def g_back : List PyData → RF := runB f_back 1
def f_last : SS :=
  (sSeq (sDrop (b1 (b1 (aCons (eVar 0) (aCons (b1 (b1 aNil capL) okL) aNil)) (callL g_asked_dance 2)) okL))
  (sRetF (b1 (b1 (b1 (aCons (eVar 0) aNil) (callL g_at_first 1)) okL) fun d => ofO (revD d))))
def g_last : List PyData → RF := runB f_last 1
def f_rest : SS :=
  (sSeq (sAsgE 1 (b1 (b1 (aCons (eVar 0) aNil) (callL g_asked_order 1)) okL))
  (sRetF (b1 (b1 (b1 (aCons (eVar 1) aNil) (callL g_inside_out 1)) okL) fun d => ofO (revD d))))
def g_rest : List PyData → RF := runB f_rest 2
def f_near : SS :=
  (sRetE (b2 (b1 (aCons (b2 (bVar 0) (bVar 1) fun a b => ofO (subI a b)) aNil) fun ds => ofO (absD ds)) (eC (.int 2)) fun a b => ofO (ltI a b)))
def g_near : List PyData → RF := runB f_near 2
def f_fits : SS :=
  (sSeq (sAsgE 3 (b1 (b3 (uVar 0) (b1 (bVar 2) asO) (b1 (b2 (bVar 2) (eC (.int 2)) fun a b => ofO (addI a b)) asO) fun d lo hi => ofO (cutD d lo hi)) okL))
  (sSeq (sIf (b1 (b2 (b1 (aCons (bVar 3) aNil) fun ds => ofO (lenD ds)) (eC (.int 2)) fun a b => ofO (ltI a b)) asB) (sRetE (eC (.bool false))) sNil)
  (sSeq (sIf (b1 (b2 (bVar 1) (eC (.str "trade")) fun a b => ofO (eqD a b)) asB) (sRetE (b1 (b1 (aCons (b2 (uVar 3) (eC (.int 0)) fun a b => ofO (idxD a b)) (aCons (b2 (uVar 3) (eC (.int 1)) fun a b => ofO (idxD a b)) aNil)) (callV g_near 2)) vNot)) sNil)
  (sSeq (sIf (b1 (b2 (bVar 1) (eC (.str "out")) fun a b => ofO (eqD a b)) asB) (sRetE (b2 (b2 (uVar 3) (eC (.int 0)) fun a b => ofO (idxD a b)) (b2 (uVar 3) (eC (.int 1)) fun a b => ofO (idxD a b)) fun a b => ofO (eqD a b))) sNil)
  (sRetE (vAnd (b2 (bVar 1) (eC (.str "plait")) fun a b => ofO (eqD a b)) (vAnd (b2 (b1 (aCons (b2 (b2 (uVar 3) (eC (.int 0)) fun a b => ofO (idxD a b)) (b2 (uVar 3) (eC (.int 1)) fun a b => ofO (idxD a b)) fun a b => ofO (subI a b)) aNil) fun ds => ofO (absD ds)) (eC (.int 1)) fun a b => ofO (eqD a b)) (b2 (b1 (b3 (uVar 0) (b1 (b2 (bVar 2) (eC (.int 2)) fun a b => ofO (addI a b)) asO) (b1 (b2 (bVar 2) (eC (.int 3)) fun a b => ofO (addI a b)) asO) fun d lo hi => ofO (cutD d lo hi)) okL) (b1 (b3 (uVar 3) oNone (b1 (eC (.int 1)) asO) fun d lo hi => ofO (cutD d lo hi)) okL) fun a b => ofO (eqD a b)))))))))
def g_fits : List PyData → RF := runB f_fits 4
def f_done : SS :=
  (sSeq (sUnpL [4, 5] (b1 (b3 (uVar 0) (b1 (bVar 2) asO) (b1 (b2 (bVar 2) (eC (.int 2)) fun a b => ofO (addI a b)) asO) fun d lo hi => ofO (cutD d lo hi)) okL))
  (sSeq (sAsgE 3 (b1 (b3 (uVar 0) oNone (b1 (bVar 2) asO) fun d lo hi => ofO (cutD d lo hi)) okL))
  (sSeq (sIf (b1 (b2 (bVar 1) (eC (.str "trade")) fun a b => ofO (eqD a b)) asB) (sRetF (b2 (b1 (b2 (uVar 3) (b1 (b1 (aCons (eVar 5) (aCons (eVar 4) aNil)) capL) okL) fun a b => ofO (catD a b)) okL) (b1 (b3 (uVar 0) (b1 (b2 (bVar 2) (eC (.int 2)) fun a b => ofO (addI a b)) asO) oNone fun d lo hi => ofO (cutD d lo hi)) okL) fun a b => ofO (catD a b))) sNil)
  (sSeq (sIf (b1 (b2 (bVar 1) (eC (.str "out")) fun a b => ofO (eqD a b)) asB) (sRetF (b2 (uVar 3) (b1 (b3 (uVar 0) (b1 (b2 (bVar 2) (eC (.int 2)) fun a b => ofO (addI a b)) asO) oNone fun d lo hi => ofO (cutD d lo hi)) okL) fun a b => ofO (catD a b))) sNil)
  (sRetF (b2 (b1 (b2 (uVar 3) (b1 (b1 (aCons (eVar 5) (aCons (eVar 4) (aCons (eVar 5) aNil))) capL) okL) fun a b => ofO (catD a b)) okL) (b1 (b3 (uVar 0) (b1 (b2 (bVar 2) (eC (.int 3)) fun a b => ofO (addI a b)) asO) oNone fun d lo hi => ofO (cutD d lo hi)) okL) fun a b => ofO (catD a b)))))))
def g_done : List PyData → RF := runB f_done 6
def f_is_put_in : SS :=
  (sSeq (sIf (tOr2 (b1 (b1 (b1 (bVar 2) fun d => ofO (isiT .tuple d)) asB) bNot) (tOr2 (b1 (b2 (b1 (aCons (bVar 2) aNil) fun ds => ofO (lenD ds)) (eC (.int 3)) fun a b => ofO (neD a b)) asB) (tOr2 (b1 (b2 (b2 (uVar 2) (eC (.int 0)) fun a b => ofO (idxD a b)) (eC (.str "in")) fun a b => ofO (neD a b)) asB) (b1 (b2 (b2 (b1 (aCons (bVar 1) aNil) fun ds => ofO (lenD ds)) (eC (.int 2)) fun a b => ofO (addI a b)) (eC (.int 30)) fun a b => ofO (gtI a b)) asB)))) (sRetE (eC (.bool false))) sNil)
  (sRetE (vAnd (b1 (aCons (b2 (uVar 2) (eC (.int 1)) fun a b => ofO (idxD a b)) (aCons (eC (.int 0)) (aCons (b1 (aCons (bVar 1) aNil) fun ds => ofO (lenD ds)) aNil))) (callV g_is_number 3)) (b1 (aCons (b2 (uVar 2) (eC (.int 2)) fun a b => ofO (idxD a b)) (aCons (eC (.int 0)) (aCons (b2 (bVar 0) (eC (.int 2)) fun a b => ofO (subI a b)) aNil))) (callV g_is_number 3)))))
def g_is_put_in : List PyData → RF := runB f_is_put_in 3
def f_moved : SS :=
  (sSeq (sAsgE 3 (b1 (b1 (aCons (eVar 0) (aCons (eVar 1) aNil)) (callL g_asked_dance 2)) okL))
  (sSeq (sIf (b1 (b1 (aCons (eVar 0) (aCons (eVar 3) (aCons (eVar 2) aNil))) (callV g_is_put_in 3)) asB) (sRetF (b2 (b1 (b2 (b1 (b3 (uVar 3) oNone (b1 (b2 (uVar 2) (eC (.int 1)) fun a b => ofO (idxD a b)) asO) fun d lo hi => ofO (cutD d lo hi)) okL) (b1 (b1 (aCons (b2 (uVar 2) (eC (.int 2)) fun a b => ofO (idxD a b)) (aCons (b2 (uVar 2) (eC (.int 2)) fun a b => ofO (idxD a b)) aNil)) capL) okL) fun a b => ofO (catD a b)) okL) (b1 (b3 (uVar 3) (b1 (b2 (uVar 2) (eC (.int 1)) fun a b => ofO (idxD a b)) asO) oNone fun d lo hi => ofO (cutD d lo hi)) okL) fun a b => ofO (catD a b))) sNil)
  (sSeq (sIf (tOr2 (b1 (b1 (b1 (bVar 2) fun d => ofO (isiT .tuple d)) asB) bNot) (tOr2 (b1 (b2 (b1 (aCons (bVar 2) aNil) fun ds => ofO (lenD ds)) (eC (.int 2)) fun a b => ofO (neD a b)) asB) (b1 (b1 (b1 (aCons (b2 (uVar 2) (eC (.int 1)) fun a b => ofO (idxD a b)) (aCons (eC (.int 0)) (aCons (eC (.int 30)) aNil))) (callV g_is_number 3)) asB) bNot))) (sRaise "BadMove") sNil)
  (sSeq (sIf (b1 (b1 (b1 (aCons (eVar 3) (aCons (b2 (uVar 2) (eC (.int 0)) fun a b => ofO (idxD a b)) (aCons (b2 (uVar 2) (eC (.int 1)) fun a b => ofO (idxD a b)) aNil))) (callV g_fits 3)) asB) bNot) (sRaise "BadMove") sNil)
  (sRetF (b1 (aCons (eVar 3) (aCons (b2 (uVar 2) (eC (.int 0)) fun a b => ofO (idxD a b)) (aCons (b2 (uVar 2) (eC (.int 1)) fun a b => ofO (idxD a b)) aNil))) (callL g_done 3)))))))
def g_moved : List PyData → RF := runB f_moved 4
def f_law_moved : SS :=
  (sSeq (sIf (tOr2 (b1 (b1 (b1 (bVar 2) fun d => ofO (isiT .tuple d)) asB) bNot) (tOr2 (b1 (b2 (b1 (aCons (bVar 2) aNil) fun ds => ofO (lenD ds)) (eC (.int 2)) fun a b => ofO (ltI a b)) asB) (tOr2 (b1 (b1 (b1 (b2 (uVar 2) (eC (.int 1)) fun a b => ofO (idxD a b)) fun d => ofO (isiT .int d)) asB) bNot) (b1 (b1 (b2 (uVar 2) (eC (.int 1)) fun a b => ofO (idxD a b)) fun d => ofO (isiT .bool d)) asB)))) (sRetE (eC .none)) sNil)
  (sSeq (sAsgE 3 (b2 (uVar 2) (eC (.int 1)) fun a b => ofO (idxD a b)))
  (sSeq (sIf (b1 (b2 (b2 (uVar 2) (eC (.int 0)) fun a b => ofO (idxD a b)) (eC (.str "in")) fun a b => ofO (eqD a b)) asB) (sSeq (sIf (tOr2 (b1 (b2 (b1 (aCons (bVar 2) aNil) fun ds => ofO (lenD ds)) (eC (.int 3)) fun a b => ofO (neD a b)) asB) (tOr2 (b1 (b1 (chain (eC (.int 0)) (bVar 3) (b1 (aCons (bVar 1) aNil) fun ds => ofO (lenD ds)) leI leI) asB) bNot) (tOr2 (b1 (b1 (chain (eC (.int 0)) (b2 (uVar 2) (eC (.int 2)) fun a b => ofO (idxD a b)) (b2 (bVar 0) (eC (.int 1)) fun a b => ofO (subI a b)) leI ltI) asB) bNot) (b1 (b2 (b1 (aCons (bVar 1) aNil) fun ds => ofO (lenD ds)) (eC (.int 28)) fun a b => ofO (gtI a b)) asB)))) (sRetE (eC .none)) sNil)
  (sRetF (b2 (b1 (b2 (b1 (b3 (uVar 1) oNone (b1 (bVar 3) asO) fun d lo hi => ofO (cutD d lo hi)) okL) (b1 (b1 (aCons (b2 (uVar 2) (eC (.int 2)) fun a b => ofO (idxD a b)) (aCons (b2 (uVar 2) (eC (.int 2)) fun a b => ofO (idxD a b)) aNil)) capL) okL) fun a b => ofO (catD a b)) okL) (b1 (b3 (uVar 1) (b1 (bVar 3) asO) oNone fun d lo hi => ofO (cutD d lo hi)) okL) fun a b => ofO (catD a b)))) sNil)
  (sSeq (sIf (tOr2 (b1 (b2 (b1 (aCons (bVar 2) aNil) fun ds => ofO (lenD ds)) (eC (.int 2)) fun a b => ofO (neD a b)) asB) (b1 (b1 (chain (eC (.int 0)) (bVar 3) (b2 (b1 (aCons (bVar 1) aNil) fun ds => ofO (lenD ds)) (eC (.int 1)) fun a b => ofO (subI a b)) leI ltI) asB) bNot)) (sRetE (eC .none)) sNil)
  (sSeq (sPar 4 5 (aCons (b2 (uVar 1) (bVar 3) fun a b => ofO (idxD a b)) (aCons (b2 (uVar 1) (b2 (bVar 3) (eC (.int 1)) fun a b => ofO (addI a b)) fun a b => ofO (idxD a b)) aNil)))
  (sSeq (sIf (tAnd2 (b1 (b2 (b2 (uVar 2) (eC (.int 0)) fun a b => ofO (idxD a b)) (eC (.str "trade")) fun a b => ofO (eqD a b)) asB) (b1 (b2 (b1 (aCons (b2 (bVar 4) (bVar 5) fun a b => ofO (subI a b)) aNil) fun ds => ofO (absD ds)) (eC (.int 1)) fun a b => ofO (gtI a b)) asB)) (sRetF (b2 (b1 (b2 (b1 (b3 (uVar 1) oNone (b1 (bVar 3) asO) fun d lo hi => ofO (cutD d lo hi)) okL) (b1 (b1 (aCons (eVar 5) (aCons (eVar 4) aNil)) capL) okL) fun a b => ofO (catD a b)) okL) (b1 (b3 (uVar 1) (b1 (b2 (bVar 3) (eC (.int 2)) fun a b => ofO (addI a b)) asO) oNone fun d lo hi => ofO (cutD d lo hi)) okL) fun a b => ofO (catD a b))) sNil)
  (sSeq (sIf (tAnd2 (b1 (b2 (b2 (uVar 2) (eC (.int 0)) fun a b => ofO (idxD a b)) (eC (.str "out")) fun a b => ofO (eqD a b)) asB) (b1 (b2 (bVar 4) (bVar 5) fun a b => ofO (eqD a b)) asB)) (sRetF (b2 (b1 (b3 (uVar 1) oNone (b1 (bVar 3) asO) fun d lo hi => ofO (cutD d lo hi)) okL) (b1 (b3 (uVar 1) (b1 (b2 (bVar 3) (eC (.int 2)) fun a b => ofO (addI a b)) asO) oNone fun d lo hi => ofO (cutD d lo hi)) okL) fun a b => ofO (catD a b))) sNil)
  (sSeq (sIf (tAnd2 (b1 (b2 (b2 (uVar 2) (eC (.int 0)) fun a b => ofO (idxD a b)) (eC (.str "plait")) fun a b => ofO (eqD a b)) asB) (tAnd2 (b1 (b2 (b1 (aCons (b2 (bVar 4) (bVar 5) fun a b => ofO (subI a b)) aNil) fun ds => ofO (absD ds)) (eC (.int 1)) fun a b => ofO (eqD a b)) asB) (tAnd2 (b1 (b2 (b2 (bVar 3) (eC (.int 2)) fun a b => ofO (addI a b)) (b1 (aCons (bVar 1) aNil) fun ds => ofO (lenD ds)) fun a b => ofO (ltI a b)) asB) (b1 (b2 (b2 (uVar 1) (b2 (bVar 3) (eC (.int 2)) fun a b => ofO (addI a b)) fun a b => ofO (idxD a b)) (bVar 4) fun a b => ofO (eqD a b)) asB)))) (sRetF (b2 (b1 (b2 (b1 (b3 (uVar 1) oNone (b1 (bVar 3) asO) fun d lo hi => ofO (cutD d lo hi)) okL) (b1 (b1 (aCons (eVar 5) (aCons (eVar 4) (aCons (eVar 5) aNil))) capL) okL) fun a b => ofO (catD a b)) okL) (b1 (b3 (uVar 1) (b1 (b2 (bVar 3) (eC (.int 3)) fun a b => ofO (addI a b)) asO) oNone fun d lo hi => ofO (cutD d lo hi)) okL) fun a b => ofO (catD a b))) sNil)
  (sRetE (eC .none))))))))))
def g_law_moved : List PyData → RF := runB f_law_moved 6
def f_law_move : SS :=
  (sSeq (sAsgE 3 (b2 (b1 (aCons (eC (.str "trade")) (aCons (eC (.str "plait")) (aCons (eC (.str "out")) (aCons (eC (.str "in")) aNil)))) tupL) (b1 (aCons (eVar 0) (aCons (eC (.int 5)) (aCons (eC (.int 4)) aNil))) (callV g_law_draw 3)) fun a b => ofO (idxD a b)))
  (sSeq (sAsgE 4 (b1 (aCons (eVar 0) (aCons (eC (.int 6)) (aCons (b2 (b1 (aCons (bVar 2) aNil) fun ds => ofO (lenD ds)) (eC (.int 2)) fun a b => ofO (addI a b)) aNil))) (callV g_law_draw 3)))
  (sSeq (sIf (b1 (b2 (bVar 3) (eC (.str "in")) fun a b => ofO (eqD a b)) asB) (sRetE (b1 (aCons (eVar 3) (aCons (eVar 4) (aCons (b1 (aCons (eVar 0) (aCons (eC (.int 7)) (aCons (b2 (b2 (bVar 1) (eC (.int 1)) fun a b => ofO (subI a b)) (b1 (aCons (eVar 0) (aCons (eC (.int 8)) (aCons (eC (.int 2)) aNil))) (callV g_law_draw 3)) fun a b => ofO (addI a b)) aNil))) (callV g_law_draw 3)) aNil))) tupL)) sNil)
  (sSeq (sIf (b1 (b2 (bVar 3) (eC (.str "plait")) fun a b => ofO (eqD a b)) asB) (sSeq (sAsgF 5 (b1 aNil capL))
  (sSeq (sFor (.nm 6) [6] (b1 (aCons (b2 (b1 (aCons (bVar 2) aNil) fun ds => ofO (lenD ds)) (eC (.int 2)) fun a b => ofO (subI a b)) aNil) fun ds => ofO (rgA1 ds)) (sIf (tAnd2 (b1 (b2 (b2 (uVar 2) (bVar 6) fun a b => ofO (idxD a b)) (b2 (uVar 2) (b2 (bVar 6) (eC (.int 2)) fun a b => ofO (addI a b)) fun a b => ofO (idxD a b)) fun a b => ofO (eqD a b)) asB) (b1 (b2 (b1 (aCons (b2 (b2 (uVar 2) (bVar 6) fun a b => ofO (idxD a b)) (b2 (uVar 2) (b2 (bVar 6) (eC (.int 1)) fun a b => ofO (addI a b)) fun a b => ofO (idxD a b)) fun a b => ofO (subI a b)) aNil) fun ds => ofO (absD ds)) (eC (.int 1)) fun a b => ofO (eqD a b)) asB)) (sApp 5 (eVar 6)) sNil))
  (sAsgE 4 (vIf (tAnd2 (b1 (b2 (bVar 5) (b1 (b1 aNil capL) okL) fun a b => ofO (neD a b)) asB) (b1 (b2 (b2 (bVar 4) (eC (.int 3)) fun a b => ofO (modI a b)) (eC (.int 0)) fun a b => ofO (gtI a b)) asB)) (b2 (uVar 5) (b2 (bVar 4) (b1 (aCons (bVar 5) aNil) fun ds => ofO (lenD ds)) fun a b => ofO (modI a b)) fun a b => ofO (idxD a b)) (eVar 4))))) sNil)
  (sRetE (b1 (aCons (eVar 3) (aCons (eVar 4) aNil)) tupL))))))
def g_law_move : List PyData → RF := runB f_law_move 7
def f_turned : SS :=
  (sSeq (sUnp [1, 2, 3] (eVar 0))
  (sSeq (sIf (b1 (b2 (bVar 1) (eC (.str "out")) fun a b => ofO (eqD a b)) asB) (sRetE (b1 (aCons (eC (.str "in")) (aCons (eVar 2) (aCons (eVar 3) aNil))) tupL)) sNil)
  (sRetE (b1 (aCons (eVar 1) (aCons (eVar 2) aNil)) tupL))))
def g_turned : List PyData → RF := runB f_turned 4
def f_asked_two : SS :=
  (sSeq (sAsgE 2 (b1 (b1 (aCons (eVar 0) aNil) (callL g_asked_order 1)) okL))
  (sSeq (sAsgE 3 (b1 (b1 (aCons (eVar 1) aNil) (callL g_asked_order 1)) okL))
  (sSeq (sIf (b1 (b2 (b1 (aCons (bVar 2) aNil) fun ds => ofO (lenD ds)) (b1 (aCons (bVar 3) aNil) fun ds => ofO (lenD ds)) fun a b => ofO (neD a b)) asB) (sRaise "Unlike") sNil)
  (sRetE (b1 (aCons (eVar 2) (aCons (eVar 3) aNil)) tupL)))))
def g_asked_two : List PyData → RF := runB f_asked_two 4
def f_on_way : SS :=
  (sSeq (sUnp [3, 4] (b1 (aCons (eVar 0) (aCons (eVar 1) aNil)) (callV g_asked_two 2)))
  (sSeq (sAsgE 2 (b1 (b1 (aCons (eVar 4) aNil) (callL g_pairs_in 1)) okL))
  (sRetE (b1 (aCons (b1 (lcF (.nm 5) [5] (b1 (b1 (b1 (aCons (eVar 3) aNil) (callL g_pairs_in 1)) okL) asL) tYesF (b2 (bVar 5) (bVar 2) fun a b => ofO ((inD false) a b))) okL) aNil) fun ds => ofO (allD ds)))))
def g_on_way : List PyData → RF := runB f_on_way 6
def f_law_reached : SS :=
  (sSeq (sAsgF 1 (b1 (aCons (eVar 0) aNil) capL))
  (sSeq (sAsgE 2 (eC (.int 0)))
  (sSeq (sWhile (b1 (b2 (bVar 2) (b1 (aCons (bVar 1) aNil) fun ds => ofO (lenD ds)) fun a b => ofO (ltI a b)) asB) [3, 4, 5] (sSeq (sAsgE 3 (b2 (uVar 1) (bVar 2) fun a b => ofO (idxD a b)))
  (sSeq (sFor (.nm 4) [4, 5] (b1 (aCons (b2 (b1 (aCons (bVar 3) aNil) fun ds => ofO (lenD ds)) (eC (.int 1)) fun a b => ofO (subI a b)) aNil) fun ds => ofO (rgA1 ds)) (sIf (b1 (b2 (b2 (uVar 3) (bVar 4) fun a b => ofO (idxD a b)) (b2 (uVar 3) (b2 (bVar 4) (eC (.int 1)) fun a b => ofO (addI a b)) fun a b => ofO (idxD a b)) fun a b => ofO (ltI a b)) asB) (sSeq (sAsgE 5 (b1 (b1 (aCons (eVar 3) (aCons (b1 (b1 (aCons (eVar 4) aNil) capL) okL) aNil)) (callL g_law_danced 2)) okL))
  (sIf (b1 (b2 (bVar 5) (bVar 1) fun a b => ofO ((inD true) a b)) asB) (sApp 1 (eVar 5)) sNil)) sNil))
  (sAsgE 2 (b2 (bVar 2) (eC (.int 1)) fun a b => ofO (addI a b))))) 1000)
  (sRetO 1))))
def g_law_reached : List PyData → RF := runB f_law_reached 6
def f_law_due : SS :=
  (sSeq (sIf (b1 (b2 (b1 (aCons (bVar 0) aNil) fun ds => ofO (lenD ds)) (eC (.int 5)) fun a b => ofO (ltI a b)) asB) (sRetE (b2 (bVar 1) (b1 (b1 (aCons (eVar 0) aNil) (callL g_law_reached 1)) okL) fun a b => ofO ((inD false) a b))) sNil)
  (sRetE (b1 (aCons (b1 (lcF (.nm 2) [2] (b1 (b1 (b1 (aCons (eVar 0) aNil) (callL g_law_pairs 1)) okL) asL) tYesF (b2 (bVar 2) (b1 (b1 (aCons (eVar 1) aNil) (callL g_law_pairs 1)) okL) fun a b => ofO ((inD false) a b))) okL) aNil) fun ds => ofO (allD ds))))
def g_law_due : List PyData → RF := runB f_law_due 3
def f_law_on : SS :=
  (sSeq (sAsgF 2 (b1 (uVar 0) fun d => ofO (listD d)))
  (sSeq (sFor (.nm 3) [3, 4] (b1 (aCons (b1 (aCons (eVar 1) (aCons (eC (.int 1)) (aCons (eC (.int 4)) aNil))) (callV g_law_draw 3)) aNil) fun ds => ofO (rgA1 ds)) (sSeq (sAsgE 4 (b1 (lcF (.nm 5) [5] (b1 (aCons (b2 (b1 (aCons (bVar 2) aNil) fun ds => ofO (lenD ds)) (eC (.int 1)) fun a b => ofO (subI a b)) aNil) fun ds => ofO (rgA1 ds)) (b1 (b2 (b2 (uVar 2) (bVar 5) fun a b => ofO (idxD a b)) (b2 (uVar 2) (b2 (bVar 5) (eC (.int 1)) fun a b => ofO (addI a b)) fun a b => ofO (idxD a b)) fun a b => ofO (ltI a b)) asB) (eVar 5)) okL))
  (sIf (b1 (b2 (bVar 4) (b1 (b1 aNil capL) okL) fun a b => ofO (neD a b)) asB) (sAsgF 2 (b1 (aCons (bVar 2) (aCons (b1 (b1 (aCons (b2 (uVar 4) (b1 (aCons (eVar 1) (aCons (b2 (bVar 3) (eC (.int 2)) fun a b => ofO (addI a b)) (aCons (b1 (aCons (bVar 4) aNil) fun ds => ofO (lenD ds)) aNil))) (callV g_law_draw 3)) fun a b => ofO (idxD a b)) aNil) capL) okL) aNil)) (callLB g_law_danced 2))) sNil)))
  (sRetO 2)))
def g_law_on : List PyData → RF := runB f_law_on 6
def f_with_pairs : SS :=
  (sSeq (sAsgF 2 (lcF (.nm 3) [3] (b1 (aCons (bVar 0) aNil) fun ds => ofO (rgA1 ds)) tYesF (eC (.int 0))))
  (sSeq (sFor (.nm 3) [3, 4, 5] (b1 (aCons (bVar 0) aNil) fun ds => ofO (rgA1 ds)) (sSeq (sAsgE 4 (b1 (lcF (.nm 6) [6] (b1 (aCons (bVar 3) aNil) fun ds => ofO (rgA1 ds)) (b1 (b2 (b1 (aCons (eVar 6) (aCons (eVar 3) aNil)) tupL) (bVar 1) fun a b => ofO ((inD true) a b)) asB) (eVar 6)) okL))
  (sSeq (sAsgE 5 (b2 (b1 (aCons (bVar 4) aNil) fun ds => ofO (lenD ds)) (b1 (aCons (b1 (lcF (.nm 6) [6] (b1 (aCons (bVar 3) (aCons (bVar 0) aNil)) fun ds => ofO (rgA2 ds)) (b1 (b2 (b1 (aCons (eVar 3) (aCons (eVar 6) aNil)) tupL) (bVar 1) fun a b => ofO ((inD false) a b)) asB) (eVar 6)) okL) aNil) fun ds => ofO (lenD ds)) fun a b => ofO (addI a b)))
  (sPut 2 (bVar 5) (eVar 3)))))
  (sRetO 2)))
def g_with_pairs : List PyData → RF := runB f_with_pairs 7
def fC_closed (gc : List PyData → RF) : SS :=
  (sSeq (sAsgF 2 (b1 (uVar 1) fun d => ofO (listD d)))
  (sSeq (sFor (.nm 3) [3, 4, 5] (b1 (aCons (bVar 0) aNil) fun ds => ofO (rgA1 ds)) (sFor (.nm 4) [4, 5] (b1 (aCons (bVar 3) aNil) fun ds => ofO (rgA1 ds)) (sFor (.nm 5) [5] (b1 (aCons (b2 (bVar 3) (eC (.int 1)) fun a b => ofO (addI a b)) (aCons (bVar 0) aNil)) fun ds => ofO (rgA2 ds)) (sIf (tAnd2 (b1 (b2 (b1 (aCons (eVar 4) (aCons (eVar 3) aNil)) tupL) (bVar 2) fun a b => ofO ((inD false) a b)) asB) (tAnd2 (b1 (b2 (b1 (aCons (eVar 3) (aCons (eVar 5) aNil)) tupL) (bVar 2) fun a b => ofO ((inD false) a b)) asB) (b1 (b2 (b1 (aCons (eVar 4) (aCons (eVar 5) aNil)) tupL) (bVar 2) fun a b => ofO ((inD true) a b)) asB))) (sApp 2 (b1 (aCons (eVar 4) (aCons (eVar 5) aNil)) tupL)) sNil))))
  (sSeq (sIf (b1 (b2 (b1 (aCons (bVar 2) aNil) fun ds => ofO (lenD ds)) (b1 (aCons (bVar 1) aNil) fun ds => ofO (lenD ds)) fun a b => ofO (gtI a b)) asB) (gFz 2 (sRetF (b1 (aCons (eVar 0) (aCons (eVar 2) aNil)) (callL gc 2)))) sNil)
  (sRetO 2))))
def gC_closed : Nat → List PyData → RF
  | 0 => runB sNone 6
  | k + 1 => runB (fC_closed (gC_closed k)) 6
def g_closed : List PyData → RF := gC_closed 23
def f_joined : SS :=
  (sSeq (sUnp [2, 3] (b1 (aCons (eVar 0) (aCons (eVar 1) aNil)) (callV g_asked_two 2)))
  (sRetF (b1 (aCons (b1 (aCons (bVar 2) aNil) fun ds => ofO (lenD ds)) (aCons (b1 (b1 (aCons (b1 (aCons (bVar 2) aNil) fun ds => ofO (lenD ds)) (aCons (b1 (b1 (b1 (b2 (b1 (b1 (aCons (eVar 2) aNil) (callL g_pairs_in 1)) okL) (b1 (b1 (aCons (eVar 3) aNil) (callL g_pairs_in 1)) okL) fun a b => ofO (catD a b)) okL) fun d => ofO (sortSetD d)) okL) aNil)) (callL g_closed 2)) okL) aNil)) (callL g_with_pairs 2))))
def g_joined : List PyData → RF := runB f_joined 4
def f_met : SS :=
  (sSeq (sUnp [3, 4] (b1 (aCons (eVar 0) (aCons (eVar 1) aNil)) (callV g_asked_two 2)))
  (sSeq (sAsgE 2 (b1 (b2 (b1 (b1 (aCons (b1 (b1 (uVar 3) fun d => ofO (revD d)) okL) aNil) (callL g_pairs_in 1)) okL) (b1 (b1 (aCons (b1 (b1 (uVar 4) fun d => ofO (revD d)) okL) aNil) (callL g_pairs_in 1)) okL) fun a b => ofO (catD a b)) okL))
  (sRetF (b1 (b1 (b1 (aCons (b1 (aCons (bVar 3) aNil) fun ds => ofO (lenD ds)) (aCons (b1 (b1 (aCons (b1 (aCons (bVar 3) aNil) fun ds => ofO (lenD ds)) (aCons (b1 (b1 (uVar 2) fun d => ofO (sortSetD d)) okL) aNil)) (callL g_closed 2)) okL) aNil)) (callL g_with_pairs 2)) okL) fun d => ofO (revD d)))))
def g_met : List PyData → RF := runB f_met 5
def f_law_orders : SS :=
  (sSeq (sAsgF 1 (b1 (aCons (b1 (b1 aNil capL) okL) aNil) capL))
  (sSeq (sFor (.nm 2) [2, 3, 4, 5] (b1 (aCons (bVar 0) aNil) fun ds => ofO (rgA1 ds)) (sSeq (sAsgF 3 (b1 aNil capL))
  (gFz 1 (sSeq (sFor (.nm 4) [4, 5] (b1 (eVar 1) asL) (sFor (.nm 5) [5] (b1 (b1 (lcF (.nm 6) [6] (b1 (aCons (bVar 0) aNil) fun ds => ofO (rgA1 ds)) (b1 (b2 (bVar 6) (bVar 4) fun a b => ofO ((inD true) a b)) asB) (eVar 6)) okL) asL) (sApp 3 (b1 (b2 (uVar 4) (b1 (b1 (aCons (eVar 5) aNil) capL) okL) fun a b => ofO (catD a b)) okL))))
  (gFz 3 (sAsgE 1 (eVar 3)))))))
  (sRetE (eVar 1))))
def g_law_orders : List PyData → RF := runB f_law_orders 7
def f_law_all : SS :=
  (sRetE (b1 (aCons (b1 (lcF (.nm 2) [2] (b1 (uVar 0) asL) tYesF (b2 (bVar 2) (bVar 1) fun a b => ofO ((inD false) a b))) okL) aNil) fun ds => ofO (allD ds)))
def g_law_all : List PyData → RF := runB f_law_all 3
def f_law_best : SS :=
  (sSeq (sPar 5 6 (aCons (b1 (b1 (aCons (eVar 0) aNil) (callL g_law_pairs 1)) okL) (aCons (b1 (b1 (aCons (eVar 1) aNil) (callL g_law_pairs 1)) okL) aNil)))
  (sSeq (sPar 7 8 (aCons (b1 (b1 (aCons (eVar 2) aNil) (callL g_law_pairs 1)) okL) (aCons (b1 (b1 (aCons (eVar 3) aNil) (callL g_law_pairs 1)) okL) aNil)))
  (sSeq (sIf (b1 (b1 (b1 (aCons (b1 (b2 (uVar 5) (uVar 6) fun a b => ofO (catD a b)) okL) (aCons (eVar 7) aNil)) (callV g_law_all 2)) asB) bNot) (sRetE (eC (.bool false))) sNil)
  (sSeq (sIf (tOr2 (b1 (b1 (b1 (aCons (eVar 8) (aCons (eVar 5) aNil)) (callV g_law_all 2)) asB) bNot) (b1 (b1 (b1 (aCons (eVar 8) (aCons (eVar 6) aNil)) (callV g_law_all 2)) asB) bNot)) (sRetE (eC (.bool false))) sNil)
  (sSeq (sFor (.nm 4) [4, 9, 10] (b1 (b1 (aCons (b1 (aCons (bVar 0) aNil) fun ds => ofO (lenD ds)) aNil) (callV g_law_orders 1)) asL) (sSeq (sAsgE 9 (b1 (b1 (aCons (eVar 4) aNil) (callL g_law_pairs 1)) okL))
  (sSeq (sIf (tAnd2 (b1 (b1 (aCons (b1 (b2 (uVar 5) (uVar 6) fun a b => ofO (catD a b)) okL) (aCons (eVar 9) aNil)) (callV g_law_all 2)) asB) (b1 (b1 (b1 (aCons (eVar 7) (aCons (eVar 9) aNil)) (callV g_law_all 2)) asB) bNot)) (sRetE (eC (.bool false))) sNil)
  (sSeq (sAsgE 10 (vAnd (b1 (aCons (eVar 9) (aCons (eVar 5) aNil)) (callV g_law_all 2)) (b1 (aCons (eVar 9) (aCons (eVar 6) aNil)) (callV g_law_all 2))))
  (sIf (tAnd2 (b1 (eVar 10) asB) (b1 (b1 (b1 (aCons (eVar 9) (aCons (eVar 8) aNil)) (callV g_law_all 2)) asB) bNot)) (sRetE (eC (.bool false))) sNil)))))
  (sRetE (eC (.bool true))))))))
def g_law_best : List PyData → RF := runB f_law_best 11
def f_law_followed : SS :=
  (sSeq (sAsgF 2 (b1 (uVar 0) fun d => ofO (sortSetD d)))
  (sSeq (sFor (.nm 3) [3, 4, 5, 6, 7] (b1 (aCons (bVar 1) aNil) fun ds => ofO (rgA1 ds)) (sFor (.tp [4, 5]) [4, 5, 6, 7] (b1 (b1 (b1 (uVar 2) fun d => ofO (listD d)) okL) asL) (sFor (.tp [6, 7]) [6, 7] (b1 (b1 (b1 (uVar 2) fun d => ofO (listD d)) okL) asL) (sIf (tAnd2 (b1 (b2 (bVar 6) (bVar 5) fun a b => ofO (eqD a b)) asB) (b1 (b2 (b1 (aCons (eVar 4) (aCons (eVar 7) aNil)) tupL) (bVar 2) fun a b => ofO ((inD true) a b)) asB)) (sApp 2 (b1 (aCons (eVar 4) (aCons (eVar 7) aNil)) tupL)) sNil))))
  (sRetF (b1 (uVar 2) fun d => ofO (sortD d)))))
def g_law_followed : List PyData → RF := runB f_law_followed 8
def f_counted : SS :=
  (sRetE (b1 (aCons (b1 (lcF (.nm 3) [3] (b1 (b1 (b3 (uVar 0) oNone (b1 (bVar 1) asO) fun d lo hi => ofO (cutD d lo hi)) okL) asL) (b1 (b2 (bVar 3) (bVar 2) fun a b => ofO (geI a b)) asB) (eVar 3)) okL) aNil) fun ds => ofO (lenD ds)))
def g_counted : List PyData → RF := runB f_counted 4
def f_law_count : SS :=
  (sRetE (b1 (aCons (b1 (lcF (.nm 3) [3] (b1 (b1 (b3 (uVar 0) oNone (b1 (bVar 1) asO) fun d lo hi => ofO (cutD d lo hi)) okL) asL) (b1 (b2 (bVar 3) (bVar 2) fun a b => ofO (geI a b)) asB) (eVar 3)) okL) aNil) fun ds => ofO (lenD ds)))
def g_law_count : List PyData → RF := runB f_law_count 4
def f_once : SS :=
  (sSeq (sAsgF 2 (b1 (uVar 0) fun d => ofO (listD d)))
  (sSeq (sFor (.nm 3) [3] (b1 (eVar 1) asL) (sIf (b1 (b2 (b2 (uVar 2) (bVar 3) fun a b => ofO (idxD a b)) (b2 (uVar 2) (b2 (bVar 3) (eC (.int 1)) fun a b => ofO (addI a b)) fun a b => ofO (idxD a b)) fun a b => ofO (ltI a b)) asB) (sAsgF 2 (b1 (aCons (bVar 2) (aCons (bVar 3) aNil)) (callLB g_stepped 2))) sNil))
  (sRetO 2)))
def g_once : List PyData → RF := runB f_once 4
def f_never_back : SS :=
  (sSeq (sUnp [2, 3] (b1 (aCons (eVar 0) (aCons (eVar 1) aNil)) (callV g_asked_two 2)))
  (sRetF (b1 (aCons (eVar 2) (aCons (b1 (b1 (aCons (eVar 3) aNil) (callL g_way_to 1)) okL) aNil)) (callL g_once 2))))
def g_never_back : List PyData → RF := runB f_never_back 4
def f_law_once : SS :=
  (sSeq (sAsgF 2 (b1 (uVar 0) fun d => ofO (listD d)))
  (sSeq (sFor (.nm 3) [3] (b1 (eVar 1) asL) (sIf (b1 (b2 (b2 (uVar 2) (bVar 3) fun a b => ofO (idxD a b)) (b2 (uVar 2) (b2 (bVar 3) (eC (.int 1)) fun a b => ofO (addI a b)) fun a b => ofO (idxD a b)) fun a b => ofO (ltI a b)) asB) (sAsgF 2 (b1 (aCons (bVar 2) (aCons (b1 (b1 (aCons (eVar 3) aNil) capL) okL) aNil)) (callLB g_law_danced 2))) sNil))
  (sRetO 2)))
def g_law_once : List PyData → RF := runB f_law_once 4
def fC_ways_to (gc : Addr → PyData → DK → DF) : SS :=
  (sSeq (sAsgE 2 (b1 (uVar 0) fun d => ofO (tupD d)))
  (sSeq (sIf (dNotP 1 (bVar 2)) (sSeq (sAsgE 3 (b1 (aCons (b2 (bVar 0) (b1 (b1 (aCons (b1 (aCons (bVar 0) aNil) fun ds => ofO (lenD ds)) aNil) (callL g_at_first 1)) okL) fun a b => ofO (eqD a b)) aNil) fun ds => ofO (intV ds)))
  (sSeq (sFor (.nm 4) [4] (b1 (aCons (b2 (b1 (aCons (bVar 0) aNil) fun ds => ofO (lenD ds)) (eC (.int 1)) fun a b => ofO (subI a b)) aNil) fun ds => ofO (rgA1 ds)) (sIf (b1 (b2 (b2 (uVar 0) (bVar 4) fun a b => ofO (idxD a b)) (b2 (uVar 0) (b2 (bVar 4) (eC (.int 1)) fun a b => ofO (addI a b)) fun a b => ofO (idxD a b)) fun a b => ofO (gtI a b)) asB) (sAddCallD 3 1 gc (b1 (b1 (aCons (eVar 0) (aCons (eVar 4) aNil)) (callL g_stepped 2)) okL)) sNil))
  (sDPutP 1 (bVar 2) (eVar 3)))) sNil)
  (sRetS (dGetP 1 (bVar 2)))))
def gC_ways_to : Nat → Addr → PyData → DK → DF
  | 0 => runD sNone 5
  | k + 1 => runD (fC_ways_to (gC_ways_to k)) 5
def g_ways_to : Addr → PyData → DK → DF := gC_ways_to 23
def f_how_many : SS :=
  (sRetCallD0 g_ways_to (b1 (b1 (aCons (eVar 0) aNil) (callL g_asked_order 1)) okL))
def g_how_many : List PyData → RF := runB f_how_many 1
def f_law_counted : SS :=
  (sSeq (sAsgF 1 (b1 (aCons (b1 (aCons (b1 (b1 (aCons (b1 (aCons (bVar 0) aNil) fun ds => ofO (lenD ds)) aNil) (callL g_law_first 1)) okL) (aCons (eC (.int 1)) aNil)) tupL) aNil) capL))
  (sSeq (sFor (.nm 2) [2, 3, 4, 5, 6] (b1 (aCons (b1 (aCons (b1 (b1 (aCons (eVar 0) aNil) (callL g_law_pairs 1)) okL) aNil) fun ds => ofO (lenD ds)) aNil) fun ds => ofO (rgA1 ds)) (sSeq (sAsgF 3 (b1 aNil capL))
  (gFz 1 (sSeq (sFor (.tp [4, 5]) [4, 5, 6] (b1 (eVar 1) asL) (sFor (.nm 6) [6] (b1 (aCons (b2 (b1 (aCons (bVar 4) aNil) fun ds => ofO (lenD ds)) (eC (.int 1)) fun a b => ofO (subI a b)) aNil) fun ds => ofO (rgA1 ds)) (sIf (b1 (b2 (b2 (uVar 4) (bVar 6) fun a b => ofO (idxD a b)) (b2 (uVar 4) (b2 (bVar 6) (eC (.int 1)) fun a b => ofO (addI a b)) fun a b => ofO (idxD a b)) fun a b => ofO (ltI a b)) asB) (sApp 3 (b1 (aCons (b1 (b1 (aCons (eVar 4) (aCons (b1 (b1 (aCons (eVar 6) aNil) capL) okL) aNil)) (callL g_law_danced 2)) okL) (aCons (eVar 5) aNil)) tupL)) sNil)))
  (sSeq (sAsgF 1 (b1 aNil capL))
  (sFor (.nm 4) [4, 5] (b1 (b1 (lcF (.tp [7, 5]) [7, 5] (b1 (uVar 3) asL) tYesF (eVar 7)) okL) asL) (sIf (b1 (b2 (bVar 4) (b1 (lcF (.tp [7, 5]) [7, 5] (b1 (uVar 1) asL) tYesF (eVar 7)) okL) fun a b => ofO ((inD true) a b)) asB) (sApp 1 (b1 (aCons (eVar 4) (aCons (b1 (aCons (b1 (lcF (.tp [7, 5]) [7, 5] (b1 (uVar 3) asL) (b1 (b2 (bVar 7) (bVar 4) fun a b => ofO (eqD a b)) asB) (eVar 5)) okL) aNil) fun ds => ofO (sumD ds)) aNil)) tupL)) sNil)))))))
  (sRetE (b1 (aCons (b1 (lcF (.tp [4, 5]) [4, 5] (b1 (uVar 1) asL) (b1 (b2 (bVar 4) (bVar 0) fun a b => ofO (eqD a b)) asB) (eVar 5)) okL) aNil) fun ds => ofO (sumD ds)))))
def g_law_counted : List PyData → RF := runB f_law_counted 8
def f_levels_of : SS :=
  (sSeq (sAsgF 1 (b1 aNil capL))
  (sSeq (sFor (.tp [2, 3]) [2, 3, 4] (b1 (aCons (eVar 0) aNil) fun ds => ofO (enD ds)) (sSeq (sAsgE 4 (b1 (lcF (.nm 5) [5] (b1 (aCons (bVar 2) aNil) fun ds => ofO (rgA1 ds)) (b1 (b1 (aCons (b2 (uVar 0) (bVar 5) fun a b => ofO (idxD a b)) (aCons (eVar 3) aNil)) (callV g_near 2)) asB) (b2 (b2 (uVar 1) (bVar 5) fun a b => ofO (idxD a b)) (eC (.int 1)) fun a b => ofO (addI a b))) okL))
  (sApp 1 (b1 (bVar 4) fun d => ofO (maxDefD 0 d)))))
  (sRetO 1)))
def g_levels_of : List PyData → RF := runB f_levels_of 6
def f_chain_to : SS :=
  (sSeq (sAsgF 3 (b1 (aCons (eVar 2) aNil) capL))
  (sSeq (sFor (.nm 4) [4] (b1 (aCons (b1 (b1 (bVar 2) rgR) okL) aNil) fun ds => ofO (rvD ds)) (sIf (tAnd2 (b1 (b2 (b2 (b2 (uVar 1) (bVar 4) fun a b => ofO (idxD a b)) (eC (.int 1)) fun a b => ofO (addI a b)) (b2 (uVar 1) (b2 (uVar 3) (b1 (eC (.int 1)) fun d => ofO (negD d)) fun a b => ofO (idxD a b)) fun a b => ofO (idxD a b)) fun a b => ofO (eqD a b)) asB) (b1 (b1 (aCons (b2 (uVar 0) (bVar 4) fun a b => ofO (idxD a b)) (aCons (b2 (uVar 0) (b2 (uVar 3) (b1 (eC (.int 1)) fun d => ofO (negD d)) fun a b => ofO (idxD a b)) fun a b => ofO (idxD a b)) aNil)) (callV g_near 2)) asB)) (sApp 3 (eVar 4)) sNil))
  (sRetF (b1 (uVar 3) fun d => ofO (revD d)))))
def g_chain_to : List PyData → RF := runB f_chain_to 5
def f_law_columns_right : SS :=
  (sSeq (sAsgE 3 (b1 (b1 aNil capL) okL))
  (sSeq (sFor (.nm 4) [4] (b1 (eVar 2) asL) (sSeq (sIf (tOr2 (b1 (b1 (b1 (aCons (eVar 4) (aCons (b2 (bVar 0) (eC (.int 1)) fun a b => ofO (subI a b)) aNil)) (callV g_law_numbers 2)) asB) bNot) (b1 (b2 (bVar 4) (b1 (b1 aNil capL) okL) fun a b => ofO (eqD a b)) asB)) (sRetE (eC (.bool false))) sNil)
  (sSeq (sIf (b1 (b1 (b1 (aCons (b1 (lcF (.nm 9) [9] (b1 (aCons (b2 (b1 (aCons (bVar 4) aNil) fun ds => ofO (lenD ds)) (eC (.int 1)) fun a b => ofO (subI a b)) aNil) fun ds => ofO (rgA1 ds)) tYesF (b2 (b2 (b2 (uVar 4) (bVar 9) fun a b => ofO (idxD a b)) (eC (.int 1)) fun a b => ofO (addI a b)) (b2 (uVar 4) (b2 (bVar 9) (eC (.int 1)) fun a b => ofO (addI a b)) fun a b => ofO (idxD a b)) fun a b => ofO (ltI a b))) okL) aNil) fun ds => ofO (allD ds)) asB) bNot) (sRetE (eC (.bool false))) sNil)
  (sAsgE 3 (b1 (b2 (uVar 3) (uVar 4) fun a b => ofO (catD a b)) okL)))))
  (sSeq (sFor (.nm 5) [5, 6] (b1 (aCons (b2 (bVar 0) (eC (.int 1)) fun a b => ofO (subI a b)) aNil) fun ds => ofO (rgA1 ds)) (sSeq (sAsgE 6 (b1 (lcF (.nm 7) [7] (b1 (b1 (b1 (aCons (eVar 3) (aCons (eVar 1) aNil)) capL) okL) asL) tYesF (b1 (lcF (.nm 8) [8] (b1 (uVar 7) asL) (b1 (b2 (bVar 8) (b1 (aCons (eVar 5) (aCons (b2 (bVar 5) (eC (.int 1)) fun a b => ofO (addI a b)) aNil)) tupL) fun a b => ofO ((inTu false) a b)) asB) (eVar 8)) okL)) okL))
  (sIf (b1 (b2 (b2 (uVar 6) (eC (.int 0)) fun a b => ofO (idxD a b)) (b2 (uVar 6) (eC (.int 1)) fun a b => ofO (idxD a b)) fun a b => ofO (neD a b)) asB) (sRetE (eC (.bool false))) sNil)))
  (sRetE (b2 (b1 (aCons (bVar 3) aNil) fun ds => ofO (lenD ds)) (b1 (aCons (bVar 1) aNil) fun ds => ofO (lenD ds)) fun a b => ofO (eqD a b))))))
def g_law_columns_right : List PyData → RF := runB f_law_columns_right 10
def f_law_chain_right : SS :=
  (sSeq (sIf (b1 (b1 (b1 (aCons (eVar 1) (aCons (b1 (aCons (bVar 0) aNil) fun ds => ofO (lenD ds)) aNil)) (callV g_law_numbers 2)) asB) bNot) (sRetE (eC (.bool false))) sNil)
  (sSeq (sFor (.nm 2) [2] (b1 (aCons (eC (.int 1)) (aCons (b1 (aCons (bVar 1) aNil) fun ds => ofO (lenD ds)) aNil)) fun ds => ofO (rgA2 ds)) (sIf (tOr2 (b1 (b2 (b2 (uVar 1) (b2 (bVar 2) (eC (.int 1)) fun a b => ofO (subI a b)) fun a b => ofO (idxD a b)) (b2 (uVar 1) (bVar 2) fun a b => ofO (idxD a b)) fun a b => ofO (geI a b)) asB) (b1 (b2 (b1 (aCons (b2 (b2 (uVar 0) (b2 (uVar 1) (b2 (bVar 2) (eC (.int 1)) fun a b => ofO (subI a b)) fun a b => ofO (idxD a b)) fun a b => ofO (idxD a b)) (b2 (uVar 0) (b2 (uVar 1) (bVar 2) fun a b => ofO (idxD a b)) fun a b => ofO (idxD a b)) fun a b => ofO (subI a b)) aNil) fun ds => ofO (absD ds)) (eC (.int 1)) fun a b => ofO (gtI a b)) asB)) (sRetE (eC (.bool false))) sNil))
  (sRetE (eC (.bool true)))))
def g_law_chain_right : List PyData → RF := runB f_law_chain_right 3
def f_written : SS :=
  (sRetE (mS (eC (.str " ")) (b1 (lcF (.nm 2) [2] (b1 (b1 (b1 (aCons (eVar 0) (aCons (eVar 1) aNil)) (callL g_asked_dance 2)) okL) asL) tYesF (b1 (aCons (bVar 2) aNil) fun ds => ofO (strD ds))) okL) joinD))
def g_written : List PyData → RF := runB f_written 3
def f_read : SS :=
  (sSeq (sDrop (b1 (b1 (aCons (eVar 0) (aCons (b1 (b1 aNil capL) okL) aNil)) (callL g_asked_dance 2)) okL))
  (sSeq (sIf (b1 (b1 (b1 (bVar 1) fun d => ofO (isiT .str d)) asB) bNot) (sRaise "BadText") sNil)
  (sSeq (sIf (b1 (b2 (bVar 1) (eC (.str "")) fun a b => ofO (eqD a b)) asB) (sRetF (b1 aNil capL)) sNil)
  (sSeq (sAsgE 2 (b1 (mS (bVar 1) (eC (.str " ")) splitD) okL))
  (sSeq (sIf (tOr2 (b1 (b2 (b1 (aCons (bVar 2) aNil) fun ds => ofO (lenD ds)) (eC (.int 30)) fun a b => ofO (gtI a b)) asB) (b1 (b1 (b1 (aCons (b1 (lcF (.nm 4) [4] (b1 (uVar 2) asL) tYesF (vAnd (b2 (b1 (aCons (bVar 4) aNil) fun ds => ofO (lenD ds)) (eC (.int 1)) fun a b => ofO (eqD a b)) (b2 (bVar 4) (eC (.str "0123456789")) fun a b => ofO ((inS false) a b)))) okL) aNil) fun ds => ofO (allD ds)) asB) bNot)) (sRaise "BadText") sNil)
  (sSeq (sAsgF 3 (lcF (.nm 4) [4] (b1 (uVar 2) asL) tYesF (b1 (aCons (bVar 4) aNil) fun ds => ofO (intS ds))))
  (sSeq (sIf (b1 (b1 (b1 (aCons (b1 (lcF (.nm 5) [5] (b1 (uVar 3) asL) tYesF (b1 (aCons (eVar 5) (aCons (eC (.int 0)) (aCons (b2 (b1 (aCons (bVar 0) (aCons (eC (.int 7)) aNil)) fun ds => ofO (minD2 ds)) (eC (.int 2)) fun a b => ofO (subI a b)) aNil))) (callV g_is_number 3))) okL) aNil) fun ds => ofO (allD ds)) asB) bNot) (sRaise "BadText") sNil)
  (sRetO 3))))))))
def g_read : List PyData → RF := runB f_read 6
def f_law_steps : SS :=
  (sSeq (sIf (b1 (b2 (bVar 1) (eC (.str "")) fun a b => ofO (eqD a b)) asB) (sRetF (b1 aNil capL)) sNil)
  (sSeq (sAsgF 2 (b1 aNil capL))
  (sSeq (sFor (.nm 3) [3] (b1 (aCons (b1 (aCons (bVar 1) aNil) fun ds => ofO (lenD ds)) aNil) fun ds => ofO (rgA1 ds)) (sSeq (sIf (tOr2 (tAnd2 (b1 (b2 (b2 (bVar 3) (eC (.int 2)) fun a b => ofO (modI a b)) (eC (.int 1)) fun a b => ofO (eqD a b)) asB) (b1 (b2 (b2 (uVar 1) (bVar 3) fun a b => ofO (idxD a b)) (eC (.str " ")) fun a b => ofO (neD a b)) asB)) (tAnd2 (b1 (b2 (b2 (bVar 3) (eC (.int 2)) fun a b => ofO (modI a b)) (eC (.int 0)) fun a b => ofO (eqD a b)) asB) (b1 (b2 (b2 (uVar 1) (bVar 3) fun a b => ofO (idxD a b)) (eC (.str "0123456789")) fun a b => ofO ((inS true) a b)) asB))) (sRetE (eC .none)) sNil)
  (sIf (b1 (b2 (b2 (bVar 3) (eC (.int 2)) fun a b => ofO (modI a b)) (eC (.int 0)) fun a b => ofO (eqD a b)) asB) (sApp 2 (b1 (aCons (b2 (uVar 1) (bVar 3) fun a b => ofO (idxD a b)) aNil) fun ds => ofO (intS ds))) sNil)))
  (sSeq (sIf (tOr2 (b1 (b2 (b2 (b1 (aCons (bVar 1) aNil) fun ds => ofO (lenD ds)) (eC (.int 2)) fun a b => ofO (modI a b)) (eC (.int 0)) fun a b => ofO (eqD a b)) asB) (tOr2 (b1 (b2 (b1 (aCons (bVar 2) aNil) fun ds => ofO (lenD ds)) (eC (.int 30)) fun a b => ofO (gtI a b)) asB) (b1 (b1 (b1 (aCons (b1 (lcF (.nm 4) [4] (b1 (uVar 2) asL) tYesF (b2 (bVar 4) (b2 (bVar 0) (eC (.int 1)) fun a b => ofO (subI a b)) fun a b => ofO (ltI a b))) okL) aNil) fun ds => ofO (allD ds)) asB) bNot))) (sRetE (eC .none)) sNil)
  (sRetO 2)))))
def g_law_steps : List PyData → RF := runB f_law_steps 5
def f_law_other : SS :=
  (sSeq (sAsgE 2 (b1 (aCons (eVar 1) (aCons (eC (.int 1)) (aCons (b2 (b1 (aCons (bVar 0) aNil) fun ds => ofO (lenD ds)) (eC (.int 1)) fun a b => ofO (addI a b)) aNil))) (callV g_law_draw 3)))
  (sSeq (sAsgE 3 (b1 (b1 (aCons (eC (.str "0")) (aCons (eC (.str "1")) (aCons (eC (.str "5")) (aCons (eC (.str "6")) (aCons (eC (.str "7")) (aCons (eC (.str " ")) (aCons (eC (.str "-")) (aCons (eC (.str "+")) (aCons (eC (.str ",")) (aCons (eC (.str "a")) (aCons (eC (.str "\n")) (aCons (eC (.str "\t")) (aCons (eC (.str "_")) (aCons (eC (.str "10")) aNil)))))))))))))) capL) okL))
  (sSeq (sAsgE 4 (b2 (uVar 3) (b1 (aCons (eVar 1) (aCons (eC (.int 2)) (aCons (b1 (aCons (bVar 3) aNil) fun ds => ofO (lenD ds)) aNil))) (callV g_law_draw 3)) fun a b => ofO (idxD a b)))
  (sSeq (sAsgE 5 (b1 (aCons (eVar 1) (aCons (eC (.int 3)) (aCons (eC (.int 3)) aNil))) (callV g_law_draw 3)))
  (sSeq (sIf (b1 (b2 (bVar 5) (eC (.int 0)) fun a b => ofO (eqD a b)) asB) (sRetE (b2 (b2 (b3 (bVar 0) oNone (b1 (bVar 2) asO) fun d lo hi => ofO (cutSD d lo hi)) (bVar 4) fun a b => ofO (addS a b)) (b3 (bVar 0) (b1 (bVar 2) asO) oNone fun d lo hi => ofO (cutSD d lo hi)) fun a b => ofO (addS a b))) sNil)
  (sRetE (b2 (b2 (b3 (bVar 0) oNone (b1 (bVar 2) asO) fun d lo hi => ofO (cutSD d lo hi)) (b2 (b1 (b1 (aCons (eC (.str "")) (aCons (eVar 4) aNil)) capL) okL) (b2 (bVar 5) (eC (.int 1)) fun a b => ofO (subI a b)) fun a b => ofO (idxD a b)) fun a b => ofO (addS a b)) (b3 (bVar 0) (b1 (b2 (bVar 2) (eC (.int 1)) fun a b => ofO (addI a b)) asO) oNone fun d lo hi => ofO (cutSD d lo hi)) fun a b => ofO (addS a b))))))))
def g_law_other : List PyData → RF := runB f_law_other 6
def f_law_move_asked : SS :=
  (sSeq (sAsgE 2 (b1 (b1 (aCons (eC .none) (aCons (b1 (b1 (aCons (eC (.str "out")) (aCons (eC (.int 1)) aNil)) capL) okL) (aCons (b1 (aCons (eC (.str "out")) aNil) tupL) (aCons (b1 (aCons (eC (.str "out")) (aCons (eC (.bool true)) aNil)) tupL) (aCons (b1 (aCons (eC (.str "out")) (aCons (b2 (b1 (eC (.int 1)) fun d => ofO (negD d)) (bVar 1) fun a b => ofO (subI a b)) aNil)) tupL) (aCons (b1 (aCons (eC (.str "swap")) (aCons (eC (.int 0)) aNil)) tupL) (aCons (b1 (aCons (eC (.str "in")) (aCons (eC (.int 0)) aNil)) tupL) (aCons (b1 (aCons (eC (.str "in")) (aCons (eC (.int 0)) (aCons (b2 (eC (.int 2)) (bVar 1) fun a b => ofO (addI a b)) aNil))) tupL) aNil)))))))) capL) okL))
  (sSeq (sAsgE 2 (b1 (b2 (uVar 2) (b1 (b1 (aCons (b1 (aCons (eC (.str "out")) (aCons (eC (.int 1)) (aCons (eC (.int 0)) aNil))) tupL) (aCons (b1 (aCons (eC (.str "in")) (aCons (b2 (eC (.int 4)) (bVar 1) fun a b => ofO (addI a b)) (aCons (eC (.int 0)) aNil))) tupL) (aCons (b1 (aCons (eC (.str "in")) (aCons (eC (.int 0)) (aCons (eC (.bool true)) aNil))) tupL) (aCons (b1 (aCons (eC (.str "in")) (aCons (b2 (b1 (eC (.int 1)) fun d => ofO (negD d)) (bVar 1) fun a b => ofO (subI a b)) (aCons (eC (.int 0)) aNil))) tupL) (aCons (b1 (aCons (eC (.str "in")) (aCons (eC (.int 0)) (aCons (b2 (b1 (eC (.int 1)) fun d => ofO (negD d)) (bVar 1) fun a b => ofO (subI a b)) aNil))) tupL) aNil))))) capL) okL) fun a b => ofO (catD a b)) okL))
  (sSeq (sAsgE 2 (b1 (b2 (uVar 2) (b1 (b1 (aCons (b1 (aCons (eC (.str "in")) (aCons (eC (.bool true)) (aCons (eC (.int 0)) aNil))) tupL) (aCons (b1 (aCons (eC (.str "in")) (aCons (eC (.str "0")) (aCons (eC (.int 0)) aNil))) tupL) (aCons (b1 (aCons (eC (.str "in")) (aCons (eC (.int 0)) (aCons (eC .none) aNil))) tupL) (aCons (b1 (aCons (eC (.str "trade")) (aCons (eC .none) aNil)) tupL) (aCons (b1 (aCons (eC (.str "plait")) (aCons (eC (.str "0")) aNil)) tupL) (aCons (b1 (aCons (b1 (b1 (aCons (eC (.str "out")) aNil) capL) okL) (aCons (eC (.int 1)) aNil)) tupL) aNil)))))) capL) okL) fun a b => ofO (catD a b)) okL))
  (sSeq (sAsgE 2 (b1 (b2 (uVar 2) (b1 (b1 (aCons (b1 (aCons (eC (.str "trade")) (aCons (b2 (b1 (eC (.int 1)) fun d => ofO (negD d)) (bVar 1) fun a b => ofO (subI a b)) aNil)) tupL) (aCons (b1 aNil tupL) (aCons (b1 (aCons (eC (.str "in")) (aCons (eC (.int 0)) (aCons (eC (.int 0)) (aCons (eC (.int 0)) aNil)))) tupL) (aCons (b1 (aCons (eC (.str "plait")) (aCons (b2 (b1 (eC (.int 1)) fun d => ofO (negD d)) (bVar 1) fun a b => ofO (subI a b)) aNil)) tupL) (aCons (eC (.str "out")) (aCons (eC (.int 0)) aNil)))))) capL) okL) fun a b => ofO (catD a b)) okL))
  (sSeq (sIf (b1 (b2 (bVar 0) (eC (.int 25)) fun a b => ofO (ltI a b)) asB) (sRetF (b1 (aCons (eC (.int 3)) (aCons (b1 (b1 (aCons (eC (.int 0)) (aCons (eC (.int 1)) (aCons (eC (.int 1)) aNil))) capL) okL) (aCons (b2 (uVar 2) (bVar 0) fun a b => ofO (idxD a b)) aNil))) (callL g_moved 3))) sNil)
  (sSeq (sAsgF 3 (b1 (aCons (b1 (aCons (eC (.int 4)) (aCons (b1 (b1 (aCons (eC (.int 0)) (aCons (eC (.int 2)) aNil)) capL) okL) (aCons (b1 (aCons (eC (.str "swap")) (aCons (eC (.int 0)) aNil)) tupL) aNil))) tupL) (aCons (b1 (aCons (eC (.int 3)) (aCons (b1 (b1 (aCons (eC (.int 0)) (aCons (eC (.int 1)) (aCons (eC (.int 0)) aNil))) capL) okL) (aCons (b1 (aCons (eC (.str "braid")) (aCons (eC (.int 0)) aNil)) tupL) aNil))) tupL) (aCons (b1 (aCons (eC (.int 3)) (aCons (b1 (b1 (aCons (eC (.int 1)) (aCons (eC (.int 1)) aNil)) capL) okL) (aCons (b1 (aCons (eC (.str "Out")) (aCons (eC (.int 0)) aNil)) tupL) aNil))) tupL) (aCons (b1 (aCons (eC (.int 3)) (aCons (b1 (b1 aNil capL) okL) (aCons (b1 (aCons (eC (.str "put")) (aCons (eC (.int 0)) (aCons (eC (.int 1)) aNil))) tupL) aNil))) tupL) aNil)))) capL))
  (sSeq (sAsgF 3 (b2 (uVar 3) (b1 (b1 (aCons (b1 (aCons (eC (.int 3)) (aCons (b1 (b1 (aCons (eC (.int 1)) (aCons (eC (.int 1)) (aCons (eC (.int 0)) aNil))) capL) okL) (aCons (b1 (aCons (eC (.str "out")) (aCons (b1 (eC (.int 3)) fun d => ofO (negD d)) aNil)) tupL) aNil))) tupL) (aCons (b1 (aCons (eC (.int 4)) (aCons (b1 (b1 (aCons (eC (.int 0)) (aCons (eC (.int 2)) (aCons (eC (.int 0)) (aCons (eC (.int 2)) aNil)))) capL) okL) (aCons (b1 (aCons (eC (.str "trade")) (aCons (b1 (eC (.int 4)) fun d => ofO (negD d)) aNil)) tupL) aNil))) tupL) (aCons (b1 (aCons (eC (.int 4)) (aCons (b1 (b1 (aCons (eC (.int 0)) (aCons (eC (.int 2)) (aCons (eC (.int 0)) (aCons (eC (.int 2)) aNil)))) capL) okL) (aCons (b1 (aCons (eC (.str "trade")) (aCons (b1 (eC (.int 3)) fun d => ofO (negD d)) aNil)) tupL) aNil))) tupL) aNil))) capL) okL) fun a b => ofO (catD a b)))
  (sSeq (sAsgF 3 (b2 (uVar 3) (b1 (b1 (aCons (b1 (aCons (eC (.int 3)) (aCons (b1 (b1 (aCons (eC (.int 0)) (aCons (eC (.int 1)) (aCons (eC (.int 0)) (aCons (eC (.int 1)) aNil)))) capL) okL) (aCons (b1 (aCons (eC (.str "plait")) (aCons (b1 (eC (.int 4)) fun d => ofO (negD d)) aNil)) tupL) aNil))) tupL) (aCons (b1 (aCons (eC (.int 3)) (aCons (b1 (b1 (aCons (eC (.int 0)) (aCons (eC (.int 1)) (aCons (eC (.int 0)) aNil))) capL) okL) (aCons (b1 (aCons (eC (.str "plait")) (aCons (b1 (eC (.int 3)) fun d => ofO (negD d)) aNil)) tupL) aNil))) tupL) (aCons (b1 (aCons (eC (.int 3)) (aCons (b1 (b1 (aCons (eC (.int 1)) (aCons (eC (.int 1)) (aCons (eC (.int 0)) aNil))) capL) okL) (aCons (b1 (aCons (eC (.str "out")) (aCons (b1 (eC (.int 2)) fun d => ofO (negD d)) aNil)) tupL) aNil))) tupL) aNil))) capL) okL) fun a b => ofO (catD a b)))
  (sSeq (sAsgF 3 (b2 (uVar 3) (b1 (b1 (aCons (b1 (aCons (eC (.int 1)) (aCons (b1 (b1 aNil capL) okL) (aCons (b1 (aCons (eC (.str "in")) (aCons (eC (.int 0)) (aCons (eC (.int 0)) aNil))) tupL) aNil))) tupL) (aCons (b1 (aCons (eC (.int 1)) (aCons (b1 (b1 aNil capL) okL) (aCons (b1 (aCons (eC (.str "out")) (aCons (eC (.int 0)) aNil)) tupL) aNil))) tupL) (aCons (b1 (aCons (eC (.int 4)) (aCons (b1 (b1 (aCons (eC (.int 0)) (aCons (eC (.int 2)) aNil)) capL) okL) (aCons (b1 (aCons (eC (.str "trade")) (aCons (eC (.int 0)) (aCons (eC (.int 0)) aNil))) tupL) aNil))) tupL) aNil))) capL) okL) fun a b => ofO (catD a b)))
  (sSeq (sApp 3 (b1 (aCons (eC (.int 3)) (aCons (b1 (b1 (aCons (eC (.int 0)) (aCons (eC (.int 1)) (aCons (eC (.int 0)) aNil))) capL) okL) (aCons (b1 (aCons (eC (.str "plait")) (aCons (eC (.int 0)) (aCons (eC (.int 0)) aNil))) tupL) aNil))) tupL))
  (sSeq (sUnp [4, 5, 6] (b2 (uVar 3) (b2 (bVar 0) (eC (.int 25)) fun a b => ofO (subI a b)) fun a b => ofO (idxD a b)))
  (sRetF (b1 (aCons (eVar 4) (aCons (eVar 5) (aCons (eVar 6) aNil))) (callL g_moved 3))))))))))))))
def g_law_move_asked : List PyData → RF := runB f_law_move_asked 7
end
end PF
end
section
set_option Elab.async false
set_option linter.all false
set_option maxRecDepth 100000
set_option autoImplicit false
set_option maxHeartbeats 1000000
/-! plain readings of the value layer's operations, at numbers and lists of numbers -/
namespace VL
open PySem L2
abbrev iN (n : Nat) : PyData := .int (n : Int)
def nl (l : List Nat) : List PyData := l.map iN
@[simp] theorem nl_nil : nl [] = [] := rfl
@[simp] theorem nl_cons (a : Nat) (l : List Nat) : nl (a :: l) = .int (a : Int) :: nl l := rfl
@[simp] theorem nl_len (l : List Nat) : (nl l).length = l.length := List.length_map _
theorem nl_app (a b : List Nat) : nl (a ++ b) = nl a ++ nl b := List.map_append
theorem nl_rev (a : List Nat) : nl a.reverse = (nl a).reverse := List.map_reverse
theorem nl_take (k : Nat) (a : List Nat) : nl (a.take k) = (nl a).take k := List.map_take
theorem nl_drop (k : Nat) (a : List Nat) : nl (a.drop k) = (nl a).drop k := List.map_drop
theorem nl_set (k x : Nat) (a : List Nat) : nl (a.set k x) = (nl a).set k (.int (x : Int)) := List.map_set
theorem nl_get (a : List Nat) (k : Nat) (h : k < a.length) : (nl a)[k]? = some (.int ((a[k]?.getD 0 : Nat) : Int)) := by
  unfold nl
  rw [List.getElem?_map, List.getElem?_eq_getElem h]
  rfl
@[simp] theorem nl_inj (a b : List Nat) : nl a = nl b ↔ a = b := by
  constructor
  · intro h
    induction a generalizing b with
    | nil => cases b with
      | nil => rfl
      | cons y b => simp at h
    | cons x a ih => cases b with
      | nil => simp at h
      | cons y b =>
        simp at h
        rw [show x = y by omega, ih b h.2]
  · intro h
    rw [h]
/-! data -/
theorem eqvAll_nl : ∀ a b : List Nat, PyData.eqvAll (nl a) (nl b) = decide (a = b)
  | [], [] => rfl
  | [], _ :: _ => rfl
  | _ :: _, [] => rfl
  | x :: a, y :: b => by
    show (PyData.eqv (.int (x : Int)) (.int (y : Int)) && PyData.eqvAll (nl a) (nl b)) = _
    rw [eqvAll_nl a b]
    show (((x : Int) == (y : Int)) && _) = _
    by_cases h : x = y
    · subst h
      simp
    · have : ((x : Int) == (y : Int)) = false := by simp; omega
      rw [this]
      simp [h]
theorem canLayAll_nl : ∀ a : List Nat, PyData.canLayAll0 (nl a) = true
  | [] => rfl
  | x :: a => by
    show (true && PyData.canLayAll0 (nl a)) = true
    rw [canLayAll_nl a]; rfl
theorem depthAll_nl : ∀ a : List Nat, PyData.depthAll (nl a) = 0
  | [] => rfl
  | x :: a => by
    show max 0 (PyData.depthAll (nl a)) = 0
    rw [depthAll_nl a]; rfl
@[simp] theorem shaped_nl (a : List Nat) : SeqAt.shaped (.list (nl a)) = true := by
  unfold SeqAt.shaped
  show (PyData.canLayAll0 (nl a) && decide (PyData.depthAll (nl a) + 1 ≤ 64)) = true
  rw [canLayAll_nl, depthAll_nl]; rfl
@[simp] theorem shaped_int (i : Int) : SeqAt.shaped (.int i) = true := rfl
@[simp] theorem shaped_none : SeqAt.shaped .none = true := rfl
@[simp] theorem shaped_bool (b : Bool) : SeqAt.shaped (.bool b) = true := rfl
theorem eqv_nl (a b : List Nat) : PyData.eqv (.list (nl a)) (.list (nl b)) = decide (a = b) := eqvAll_nl a b
@[simp] theorem eqD_nl (a b : List Nat) : eqD (.list (nl a)) (.list (nl b)) = some (.bool (decide (a = b))) := by
  unfold eqD; rw [shaped_nl, shaped_nl, eqv_nl]; rfl
@[simp] theorem neD_nl (a b : List Nat) : neD (.list (nl a)) (.list (nl b)) = some (.bool (!decide (a = b))) := by
  unfold neD; rw [shaped_nl, shaped_nl, eqv_nl]; rfl
@[simp] theorem neD_nl0 (a : List Nat) : neD (.list (nl a)) (.list []) = some (.bool (!decide (a = []))) := neD_nl a []
@[simp] theorem eqD_nl0 (a : List Nat) : eqD (.list (nl a)) (.list []) = some (.bool (decide (a = []))) := eqD_nl a []
@[simp] theorem eqD_int (a b : Int) : eqD (.int a) (.int b) = some (.bool (decide (a = b))) := by
  unfold eqD; rw [shaped_int, shaped_int]
  show some (PyData.bool (a == b)) = _
  congr 2
@[simp] theorem neD_int (a b : Int) : neD (.int a) (.int b) = some (.bool (!decide (a = b))) := by
  unfold neD; rw [shaped_int, shaped_int]
  show some (PyData.bool (!(a == b))) = _
  congr 2
@[simp] theorem neD_nn : neD (.list []) (.list []) = some (.bool false) := rfl
@[simp] theorem eqD_nn : eqD (.list []) (.list []) = some (.bool true) := rfl
@[simp] theorem neD_bb (a b : Bool) : neD (.bool a) (.bool b) = some (.bool (!(a == b))) := rfl
@[simp] theorem eqD_bb (a b : Bool) : eqD (.bool a) (.bool b) = some (.bool (a == b)) := rfl
/-! pairs -/
abbrev pN (p : Nat × Nat) : PyData := .tuple [.int (p.1 : Int), .int (p.2 : Int)]
def pl (l : List (Nat × Nat)) : List PyData := l.map pN
@[simp] theorem pl_nil : pl [] = [] := rfl
@[simp] theorem pl_cons (a : Nat × Nat) (l : List (Nat × Nat)) : pl (a :: l) = .tuple [.int (a.1 : Int), .int (a.2 : Int)] :: pl l := rfl
@[simp] theorem pl_len (l : List (Nat × Nat)) : (pl l).length = l.length := List.length_map _
theorem pl_app (a b : List (Nat × Nat)) : pl (a ++ b) = pl a ++ pl b := List.map_append
theorem eqv_pN (p q : Nat × Nat) : PyData.eqv (pN p) (pN q) = decide (p = q) := by
  show (((p.1 : Int) == (q.1 : Int)) && ((((p.2 : Int) == (q.2 : Int))) && true)) = _
  obtain ⟨a, b⟩ := p
  obtain ⟨c, d⟩ := q
  by_cases h1 : a = c <;> by_cases h2 : b = d <;> simp [h1, h2] <;> omega
theorem eqvAll_pl : ∀ a b : List (Nat × Nat), PyData.eqvAll (pl a) (pl b) = decide (a = b)
  | [], [] => rfl
  | [], _ :: _ => rfl
  | _ :: _, [] => rfl
  | x :: a, y :: b => by
    show (PyData.eqv (pN x) (pN y) && PyData.eqvAll (pl a) (pl b)) = _
    rw [eqvAll_pl a b, eqv_pN]
    by_cases h : x = y <;> simp [h]
theorem canLayAll_pl : ∀ a : List (Nat × Nat), PyData.canLayAll0 (pl a) = true
  | [] => rfl
  | x :: a => by
    show (true && PyData.canLayAll0 (pl a)) = true
    rw [canLayAll_pl a]; rfl
theorem depthAll_pl : ∀ a : List (Nat × Nat), PyData.depthAll (pl a) ≤ 1
  | [] => Nat.zero_le _
  | x :: a => by
    have := depthAll_pl a
    show max 1 (PyData.depthAll (pl a)) ≤ 1
    omega
@[simp] theorem shaped_pl (a : List (Nat × Nat)) : SeqAt.shaped (.list (pl a)) = true := by
  have h := depthAll_pl a
  unfold SeqAt.shaped
  show (PyData.canLayAll0 (pl a) && decide (PyData.depthAll (pl a) + 1 ≤ 64)) = true
  rw [canLayAll_pl, decide_eq_true (by omega)]; rfl
@[simp] theorem shaped_pN (p : Nat × Nat) : SeqAt.shaped (.tuple [.int (p.1 : Int), .int (p.2 : Int)]) = true := rfl
@[simp] theorem eqD_pl (a b : List (Nat × Nat)) : eqD (.list (pl a)) (.list (pl b)) = some (.bool (decide (a = b))) := by
  unfold eqD; rw [shaped_pl, shaped_pl]; exact congrArg (fun z => some (PyData.bool z)) (eqvAll_pl a b)
@[simp] theorem neD_pl (a b : List (Nat × Nat)) : neD (.list (pl a)) (.list (pl b)) = some (.bool (!decide (a = b))) := by
  unfold neD; rw [shaped_pl, shaped_pl]; exact congrArg (fun z => some (PyData.bool (!z))) (eqvAll_pl a b)
@[simp] theorem neD_pl0 (a : List (Nat × Nat)) : neD (.list (pl a)) (.list []) = some (.bool (!decide (a = []))) := neD_pl a []
@[simp] theorem eqD_pl0 (a : List (Nat × Nat)) : eqD (.list (pl a)) (.list []) = some (.bool (decide (a = []))) := eqD_pl a []
/-! operations -/
theorem small_t {n : Nat} (h : n ≤ 100000) : small n = true := decide_eq_true h
theorem catD_l {xs ys : List PyData} (h : xs.length + ys.length ≤ 100000) : catD (.list xs) (.list ys) = some (xs ++ ys) := by
  unfold catD
  simp only [small_t h, if_true]
@[simp] theorem capL_t {xs : List PyData} (h : xs.length ≤ 100000) : capL xs = .ok xs := by
  unfold capL
  simp only [small_t h, if_true]
@[simp] theorem tupL_t {xs : List PyData} (h : xs.length ≤ 100000) : tupL xs = .ok (.tuple xs) := by
  unfold tupL
  simp only [small_t h, if_true]
theorem ixN_nat (n k : Nat) (h : k < n) : ixN n (k : Int) = some k := by
  unfold ixN
  rw [if_pos (by omega), if_pos (by omega)]
  rfl
theorem atI_nat {α : Type} (xs : List α) (k : Nat) (h : k < xs.length) : atI xs (k : Int) = xs[k]? := by
  unfold atI
  rw [ixN_nat _ _ h]
  rfl
theorem atI_nl (a : List Nat) (k : Nat) (h : k < a.length) : atI (nl a) (k : Int) = some (.int ((a[k]?.getD 0 : Nat) : Int)) := by
  rw [atI_nat _ _ (by rw [nl_len]; exact h), nl_get a k h]
theorem atI_nl1 (a : List Nat) (k : Nat) (h : k + 1 < a.length) : atI (nl a) ((k : Int) + 1) = some (.int ((a[k + 1]?.getD 0 : Nat) : Int)) := by
  rw [show ((k : Int) + 1) = ((k + 1 : Nat) : Int) by omega, atI_nl a _ h]
theorem atI_nl0 (a : List Nat) (h : 0 < a.length) : atI (nl a) 0 = some (.int ((a[0]?.getD 0 : Nat) : Int)) := atI_nl a 0 h
theorem atI_nlm (a : List Nat) (h : 0 < a.length) : atI (nl a) (-1) = some (.int ((a[a.length - 1]?.getD 0 : Nat) : Int)) := by
  unfold atI ixN
  rw [if_neg (by omega), if_pos (by simp; omega)]
  show (nl a)[((-1 : Int) + ((nl a).length : Nat)).toNat]? = _
  rw [nl_len, show ((-1 : Int) + (a.length : Nat)).toNat = a.length - 1 by omega, nl_get _ _ (by omega)]
theorem cutG_to {α : Type} (xs : List α) (k : Nat) : cutG xs none (some (k : Int)) = xs.take k := by
  unfold cutG
  rw [HT.sIx_none, HT.sIx_nat, Nat.sub_zero, List.drop_zero, List.take_eq_take_iff]
  omega
theorem cutG_from {α : Type} (xs : List α) (k : Nat) : cutG xs (some (k : Int)) none = xs.drop k := by
  unfold cutG
  rw [HT.sIx_none, HT.sIx_nat, List.take_of_length_le (by rw [List.length_drop]; exact Nat.le_refl _), List.drop_eq_drop_iff]
  omega
theorem cutG_fr1 {α : Type} (xs : List α) (k : Nat) : cutG xs (some ((k : Int) + 1)) none = xs.drop (k + 1) := by
  rw [show ((k : Int) + 1) = ((k + 1 : Nat) : Int) by omega, cutG_from]
theorem cutG_fr2 {α : Type} (xs : List α) (k : Nat) : cutG xs (some ((k : Int) + 2)) none = xs.drop (k + 2) := by
  rw [show ((k : Int) + 2) = ((k + 2 : Nat) : Int) by omega, cutG_from]
theorem cutG_mid {α : Type} (xs : List α) (i j : Nat) : cutG xs (some (i : Int)) (some (j : Int)) = (xs.drop i).take (j - i) := by
  unfold cutG
  rw [HT.sIx_nat, HT.sIx_nat]
  by_cases h : i ≤ xs.length
  · rw [show min i xs.length = i by omega, List.take_eq_take_iff, List.length_drop]
    omega
  · rw [List.drop_of_length_le (by omega), List.drop_of_length_le (by omega)]
    simp
theorem rgL_nat (lo hi : Nat) : rgL (lo : Int) (hi : Int) = nl (List.range' lo (hi - lo)) := by
  unfold rgL nl
  rw [show ((hi : Int) - (lo : Int)).toNat = hi - lo by omega, List.range'_eq_map_range, List.map_map]
  apply List.map_congr_left
  intro x _
  show PyData.int ((lo : Int) + (x : Nat)) = PyData.int ((lo + x : Nat) : Int)
  congr 1
theorem rgA1_nat (n : Nat) (h : n ≤ 100000) : rgA1 [.int (n : Int)] = some (nl (List.range n)) := by
  unfold rgA1
  dsimp only
  rw [if_pos (decide_eq_true (by omega)), show rgL 0 (n : Int) = nl (List.range' 0 (n - 0)) from rgL_nat 0 n, List.range_eq_range', Nat.sub_zero]
theorem rgA2_nat (m n : Nat) (h : n ≤ 100000) (g : m ≤ 100000) : rgA2 [.int (m : Int), .int (n : Int)] = some (nl (List.range' m (n - m))) := by
  unfold rgA2
  dsimp only
  rw [if_pos (decide_eq_true (by omega)), rgL_nat]
theorem rgA2_nat1 (m n : Nat) (h : n ≤ 100000) (g : m < 100000) : rgA2 [.int ((m : Int) + 1), .int (n : Int)] = some (nl (List.range' (m + 1) (n - (m + 1)))) := by
  rw [show ((m : Int) + 1) = ((m + 1 : Nat) : Int) by omega, rgA2_nat _ _ h (by omega)]
@[simp] theorem boolsOf_cons (b : Bool) (r : List PyData) : boolsOf (.bool b :: r) = (boolsOf r).map (b :: ·) := rfl
@[simp] theorem boolsOf_nil : boolsOf [] = some [] := rfl
@[simp] theorem intsOf_nl (a : List Nat) : intsOf (nl a) = some (a.map fun (n : Nat) => (n : Int)) := by
  have : nl a = (a.map fun (n : Nat) => (n : Int)).map PyData.int := by unfold nl; rw [List.map_map]; rfl
  rw [this, intsOf_map]
theorem findD_nl : ∀ (a : List Nat) (x : Nat), x ∈ a → findD (nl a) (.int (x : Int)) = some (a.idxOf x)
  | [], x, h => by cases h
  | y :: a, x, h => by
    show (if PyData.eqv (.int (y : Int)) (.int (x : Int)) then some 0 else (findD (nl a) (.int (x : Int))).map (· + 1)) = _
    have e : PyData.eqv (.int (y : Int)) (.int (x : Int)) = decide (y = x) := by
      show ((y : Int) == (x : Int)) = _
      by_cases g : y = x <;> simp [g]; omega
    rw [e]
    by_cases g : y = x
    · subst g
      simp
    · rcases List.mem_cons.mp h with h | h
      · exact absurd h.symm g
      · rw [decide_eq_false g, findD_nl a x h, List.idxOf_cons, show (y == x) = false by simp [g]]
        rfl
theorem count_nl (a : List Nat) (x : Nat) : (nl a).countP (fun z => PyData.eqv z (.int (x : Int))) = a.count x := by
  induction a with
  | nil => rfl
  | cons y a ih =>
    have e : PyData.eqv (.int (y : Int)) (.int (x : Int)) = decide (y = x) := by
      show ((y : Int) == (x : Int)) = _
      by_cases g : y = x <;> simp [g]; omega
    rw [nl_cons, List.countP_cons, ih, e, List.count_cons]
    simp
/-! one step of each construct -/
@[simp] theorem eC_e (d : PyData) (e : Ev) : eC d e = .ok d := rfl
@[simp] theorem aNil_e (e : Ev) : aNil e = .ok [] := rfl
@[simp] theorem aCons_e (f : Ev → Res PyData) (r : Ev → Res (List PyData)) (e : Ev) : aCons f r e = (f e).bind fun a => (r e).bind fun r => .ok (a :: r) := rfl
@[simp] theorem b1_e {α γ : Type} (f : Ev → Res α) (h : α → Res γ) (e : Ev) : b1 f h e = (f e).bind h := rfl
@[simp] theorem b2_e {α β γ : Type} (f : Ev → Res α) (g : Ev → Res β) (h : α → β → Res γ) (e : Ev) : b2 f g h e = (f e).bind fun a => (g e).bind fun b => h a b := rfl
@[simp] theorem b3_e {α β γ δ : Type} (f : Ev → Res α) (g : Ev → Res β) (k : Ev → Res γ) (h : α → β → γ → Res δ) (e : Ev) : b3 f g k h e = (f e).bind fun a => (g e).bind fun b => (k e).bind fun c => h a b c := rfl
@[simp] theorem oNone_e (e : Ev) : oNone e = .ok none := rfl
@[simp] theorem tYesF_e (e : Ev) : tYesF e = .ok true := rfl
@[simp] theorem okL_e (ds : List PyData) : okL ds = .ok (.list ds) := rfl
@[simp] theorem bNot_e (b : Bool) : bNot b = .ok (!b) := rfl
@[simp] theorem asL_e (ds : List PyData) : asL (.list ds) = .ok ds := rfl
@[simp] theorem asT_e (ds : List PyData) : asT (.tuple ds) = .ok ds := rfl
@[simp] theorem asB_e (b : Bool) : asB (.bool b) = .ok b := rfl
@[simp] theorem asO_e (i : Int) : asO (.int i) = .ok (some i) := rfl
@[simp] theorem vNot_e (b : Bool) : vNot (.bool b) = .ok (.bool (!b)) := rfl
@[simp] theorem sSeq_e (f g : SS) (e : Ev) : sSeq f g e = match f e with
  | .nx e' => g e'
  | o => o := rfl
@[simp] theorem gFz_e (i : Nat) (f : SS) (e : Ev) : gFz i f e = match e[i]? with
  | some (.ow ds) => f (e.set i (.fz (.list ds)))
  | _ => f e := rfl
@[simp] theorem gKill_e (vs : List Nat) (f : SS) (e : Ev) : gKill vs f e = f (killS vs e) := rfl
@[simp] theorem sNil_e (e : Ev) : sNil e = .nx e := rfl
@[simp] theorem sAsgE_e (i : Nat) (f : Ev → Res PyData) (e : Ev) : sAsgE i f e = thn (f e) e fun d => .nx (e.set i (.fz d)) := rfl
@[simp] theorem sAsgF_e (i : Nat) (f : Ev → Res (List PyData)) (e : Ev) : sAsgF i f e = thn (f e) e fun d => .nx (e.set i (.ow d)) := rfl
@[simp] theorem sRetE_e (f : Ev → Res PyData) (e : Ev) : sRetE f e = thn (f e) e .rt := rfl
@[simp] theorem sRetF_e (f : Ev → Res (List PyData)) (e : Ev) : sRetF f e = thn (f e) e .rl := rfl
@[simp] theorem sIf_e (c : Ev → Res Bool) (f g : SS) (e : Ev) : sIf c f g e = thn (c e) e fun b => match b with
  | true => f e
  | false => g e := rfl
@[simp] theorem sFor_e (t : Tg) (kl : List Nat) (fi : Ev → Res (List PyData)) (f : SS) (e : Ev) : sFor t kl fi f e = match fi e with
  | .ok ds => forL t kl f ds (killS kl e)
  | .ex c => .ex c e
  | .no => .no := rfl
@[simp] theorem lcF_e (t : Tg) (vs : List Nat) (fi : Ev → Res (List PyData)) (ft : Ev → Res Bool) (fe : Ev → Res PyData) (e : Ev) : lcF t vs fi ft fe e = (fi e).bind fun ds => if small ds.length then lcL t ft fe ds (killS vs e) else .no := rfl
@[simp] theorem tAnd2_e (f g : Ev → Res Bool) (e : Ev) : tAnd2 f g e = (f e).bind fun k => match k with
  | true => g e
  | false => .ok false := rfl
@[simp] theorem tOr2_e (f g : Ev → Res Bool) (e : Ev) : tOr2 f g e = (f e).bind fun k => match k with
  | true => .ok true
  | false => g e := rfl
@[simp] theorem vAnd_e (f g : Ev → Res PyData) (e : Ev) : vAnd f g e = (f e).bind fun k => match k with
  | .bool true => g e
  | .bool false => .ok (.bool false)
  | _ => .no := rfl
@[simp] theorem vOr_e (f g : Ev → Res PyData) (e : Ev) : vOr f g e = (f e).bind fun k => match k with
  | .bool true => .ok (.bool true)
  | .bool false => g e
  | _ => .no := rfl
@[simp] theorem chain_e (fa fb fc : Ev → Res PyData) (h h' : PyData → PyData → Option PyData) (e : Ev) : chain fa fb fc h h' e = (fa e).bind fun a => (fb e).bind fun b => (ofO (h a b)).bind fun z => match z with
    | .bool true => (fc e).bind fun c => ofO (h' b c)
    | .bool false => .ok (.bool false)
    | _ => .no := rfl
@[simp] theorem addI_i (i j : Int) : addI (.int i) (.int j) = some (.int (i + j)) := rfl
@[simp] theorem subI_i (i j : Int) : subI (.int i) (.int j) = some (.int (i - j)) := rfl
@[simp] theorem ltI_i (i j : Int) : ltI (.int i) (.int j) = some (.bool (decide (i < j))) := rfl
@[simp] theorem leI_i (i j : Int) : leI (.int i) (.int j) = some (.bool (decide (i ≤ j))) := rfl
@[simp] theorem gtI_i (i j : Int) : gtI (.int i) (.int j) = some (.bool (decide (j < i))) := rfl
@[simp] theorem geI_i (i j : Int) : geI (.int i) (.int j) = some (.bool (decide (j ≤ i))) := rfl
@[simp] theorem isi_int_i (i : Int) : isiT .int (.int i) = some (.bool true) := rfl
@[simp] theorem isi_bool_i (i : Int) : isiT .bool (.int i) = some (.bool false) := rfl
@[simp] theorem isi_bool_b (i : Bool) : isiT .bool (.bool i) = some (.bool true) := rfl
@[simp] theorem isi_list_l (i : List PyData) : isiT .list (.list i) = some (.bool true) := rfl
@[simp] theorem isi_tup_t (i : List PyData) : isiT .tuple (.tuple i) = some (.bool true) := rfl
@[simp] theorem lenD_l (d : List PyData) : lenD [.list d] = some (.int (d.length : Int)) := rfl
@[simp] theorem lenD_t (d : List PyData) : lenD [.tuple d] = some (.int (d.length : Int)) := rfl
@[simp] theorem itemsD_l (d : List PyData) : itemsD (.list d) = some d := rfl
@[simp] theorem listD_l (d : List PyData) : listD (.list d) = some d := rfl
@[simp] theorem revD_l (d : List PyData) : revD (.list d) = some d.reverse := rfl
@[simp] theorem cutD_l (d : List PyData) (a b : Option Int) : cutD (.list d) a b = some (cutG d a b) := rfl
@[simp] theorem idxD_l (d : List PyData) (i : Int) : idxD (.list d) (.int i) = atI d i := rfl
@[simp] theorem idxD_t (d : List PyData) (i : Int) : idxD (.tuple d) (.int i) = atI d i := rfl
@[simp] theorem forL_nil (t : Tg) (kl : List Nat) (f : SS) (e : Ev) : forL t kl f [] e = .nx e := rfl
theorem forL_cons (t : Tg) (kl : List Nat) (f : SS) (d : PyData) (ds : List PyData) (e : Ev) : forL t kl f (d :: ds) e = match tgSet t d e with
    | none => .no
    | some e1 => match f e1 with
      | .nx e2 => forL t kl f ds (killS kl e2)
      | .ct e2 => forL t kl f ds (killS kl e2)
      | .bk e2 => .nx (killS kl e2)
      | o => o := rfl
@[simp] theorem lcL_nil (t : Tg) (ft : Ev → Res Bool) (fe : Ev → Res PyData) (e : Ev) : lcL t ft fe [] e = .ok [] := rfl
theorem lcL_cons (t : Tg) (ft : Ev → Res Bool) (fe : Ev → Res PyData) (d : PyData) (ds : List PyData) (e : Ev) : lcL t ft fe (d :: ds) e = match tgSet t d e with
    | none => .no
    | some e1 => match ft e1 with
      | .ok true => (match fe e1 with
        | .ok y => (lcL t ft fe ds e).bind fun ys => .ok (y :: ys)
        | _ => .no)
      | .ok false => lcL t ft fe ds e
      | _ => .no := rfl
@[simp] theorem tgSet_nm (i : Nat) (d : PyData) (e : Ev) : tgSet (.nm i) d e = some (e.set i (.fz d)) := rfl
@[simp] theorem killS_nil (e : Ev) : killS [] e = e := rfl
@[simp] theorem killS_cons (i : Nat) (is : List Nat) (e : Ev) : killS (i :: is) e = killS is (e.set i .no) := rfl
theorem runB_e (b : SS) (n : Nat) (ds : List PyData) : runB b n ds = finF (b (ds.map .fz ++ List.replicate (n - ds.length) .no)) := rfl
@[simp] theorem finF_nx (e : Ev) : finF (.nx e) = .val .none := rfl
@[simp] theorem finF_rt (d : PyData) : finF (.rt d) = .val d := rfl
@[simp] theorem finF_rl (d : List PyData) : finF (.rl d) = .lst d := rfl
@[simp] theorem finF_rg (d : PyData) : finF (.rg d) = .rgn d := rfl
@[simp] theorem finF_ex (c : Str) (e : Ev) : finF (.ex c e) = .exc c := rfl
/-- what a comprehension computes: each element kept by a test, mapped -/
theorem lcL_eq {α : Type} (t : Tg) (ft : Ev → Res Bool) (fe : Ev → Res PyData) (e : Ev) (en : α → PyData) (p : α → Bool) (g : α → PyData) :
    ∀ l : List α, (∀ a ∈ l, ∃ e1, tgSet t (en a) e = some e1 ∧ ft e1 = .ok (p a) ∧ (p a = true → fe e1 = .ok (g a))) → lcL t ft fe (l.map en) e = .ok ((l.filter p).map g)
  | [], _ => rfl
  | a :: l, h => by
    obtain ⟨e1, h1, h2, h3⟩ := h a List.mem_cons_self
    rw [List.map_cons, lcL_cons, h1]
    simp only []
    rw [h2]
    have ih := lcL_eq t ft fe e en p g l fun b hb => h b (List.mem_cons_of_mem _ hb)
    cases hp : p a with
    | true =>
      simp only []
      rw [h3 hp, ih]
      simp [hp]
    | false =>
      simp only []
      rw [ih]
      simp [hp]
theorem lcL_map {α : Type} (t : Tg) (fe : Ev → Res PyData) (e : Ev) (en g : α → PyData) :
    ∀ l : List α, (∀ a ∈ l, ∃ e1, tgSet t (en a) e = some e1 ∧ fe e1 = .ok (g a)) → lcL t tYesF fe (l.map en) e = .ok (l.map g)
  | [], _ => rfl
  | a :: l, h => by
    obtain ⟨e1, h1, h3⟩ := h a List.mem_cons_self
    rw [List.map_cons, lcL_cons, h1]
    simp only [tYesF_e]
    rw [h3, lcL_map t fe e en g l fun b hb => h b (List.mem_cons_of_mem _ hb)]
    rfl
end VL
end
section
set_option Elab.async false
set_option linter.all false
set_option maxRecDepth 100000
set_option autoImplicit false
set_option maxHeartbeats 1000000
/-! orders and dances in plain Lean; the program's functions computed -/
namespace PM
open PySem L2 VL PF
def swp : List Nat → Nat → List Nat
  | [], _ => []
  | [a], _ => [a]
  | a :: b :: r, 0 => b :: a :: r
  | a :: b :: r, k + 1 => a :: swp (b :: r) k
theorem swp_len : ∀ (l : List Nat) (k : Nat), (swp l k).length = l.length
  | [], k => rfl
  | [a], k => rfl
  | a :: b :: r, 0 => rfl
  | a :: b :: r, k + 1 => by
    show (swp (b :: r) k).length + 1 = (b :: r).length + 1
    rw [swp_len (b :: r) k]
theorem swp_cut : ∀ (l : List Nat) (k : Nat), k + 1 < l.length → swp l k = l.take k ++ [l[k + 1]?.getD 0, l[k]?.getD 0] ++ l.drop (k + 2)
  | [], k, h => by simp at h
  | [a], k, h => by simp at h
  | a :: b :: r, 0, h => by simp [swp]
  | a :: b :: r, k + 1, h => by
    show a :: swp (b :: r) k = _
    rw [swp_cut (b :: r) k (by simp at h ⊢; omega)]
    simp
theorem swp_set : ∀ (l : List Nat) (k : Nat), k + 1 < l.length → (l.set k (l[k + 1]?.getD 0)).set (k + 1) (l[k]?.getD 0) = swp l k
  | [], k, h => by simp at h
  | [a], k, h => by simp at h
  | a :: b :: r, 0, h => by simp [swp]
  | a :: b :: r, k + 1, h => by
    show a :: ((b :: r).set k ((b :: r)[k + 1]?.getD 0)).set (k + 1) ((b :: r)[k]?.getD 0) = a :: swp (b :: r) k
    rw [swp_set (b :: r) k (by simp at h ⊢; omega)]
theorem swp_perm : ∀ (l : List Nat) (k : Nat), (swp l k).Perm l
  | [], k => .refl _
  | [a], k => .refl _
  | a :: b :: r, 0 => .swap a b r
  | a :: b :: r, k + 1 => (swp_perm (b :: r) k).cons a
def dnc (o d : List Nat) : List Nat := d.foldl swp o
theorem dnc_len (d : List Nat) : ∀ o : List Nat, (dnc o d).length = o.length := by
  induction d with
  | nil => intro o; rfl
  | cons k d ih => intro o; show (dnc (swp o k) d).length = _; rw [ih, swp_len]
theorem dnc_perm (d : List Nat) : ∀ o : List Nat, (dnc o d).Perm o := by
  induction d with
  | nil => intro o; exact .refl _
  | cons k d ih => intro o; exact (ih _).trans (swp_perm o k)
theorem g_stepped_eq (o : List Nat) (k : Nat) (h : k + 1 < o.length) (hl : o.length ≤ 1000) : g_stepped [.list (nl o), .int (k : Int)] = .lst (nl (swp o k)) := by
  rw [swp_cut o k h]
  unfold g_stepped f_stepped
  simp [runB_e, uVar, bVar, atI_nl1 o k h, atI_nl o k (by omega), cutG_to, cutG_fr2]
  rw [catD_l (by simp; omega)]
  simp
  rw [catD_l (by simp; omega)]
  simp [nl_app, nl_take, nl_drop]
theorem callL_eq {g : List PyData → RF} {n : Nat} {ds rs : List PyData} (h : g ds = .lst rs) (l : ds.length = n) : callL g n ds = .ok rs := by
  unfold callL
  rw [if_pos l, h]
theorem callV_eq {g : List PyData → RF} {n : Nat} {ds : List PyData} {r : PyData} (h : g ds = .val r) (l : ds.length = n) : callV g n ds = .ok r := by
  unfold callV
  rw [if_pos l, h]
theorem callVL_eq {g : List PyData → RF} {n : Nat} {ds : List PyData} {r : List PyData} (h : g ds = .lst r) (l : ds.length = n) : callV g n ds = .ok (.list r) := by
  unfold callV
  rw [if_pos l, h]
theorem callLB_nl {g : List PyData → RF} {n : Nat} {ds : List PyData} {rs : List Nat} (h : g ds = .lst (nl rs)) (l : ds.length = n) : callLB g n ds = .ok (nl rs) := by
  unfold callLB
  rw [if_pos l, h]
  have : (nl rs).all flatD = true := by
    rw [List.all_eq_true]
    intro x hx
    obtain ⟨k, _, e⟩ := List.mem_map.mp hx
    subst e
    rfl
  simp [this]
theorem g_danced_eq (o d : List Nat) (hd : ∀ s ∈ d, s + 1 < o.length) (hl : o.length ≤ 1000) : g_danced [.list (nl o), .list (nl d)] = .lst (nl (dnc o d)) := by
  unfold g_danced f_danced
  simp [runB_e, uVar, eVar]
  suffices h : ∀ (d o : List Nat) (a b : Slot), (∀ s ∈ d, s + 1 < o.length) → o.length ≤ 1000 → forL (.nm 3) [3] (sAsgF 2 (b1 (aCons (bVar 2) (aCons (bVar 3) aNil)) (callLB g_stepped 2))) (nl d) [a, b, .ow (nl o), .no] = .nx [a, b, .ow (nl (dnc o d)), .no] by
    rw [h d o _ _ hd hl]
    simp [sRetO]
  intro d
  induction d with
  | nil => intro o a b _ _; rfl
  | cons k d ih =>
    intro o a b hd hl
    rw [nl_cons, forL_cons]
    simp [bVar, callLB_nl (g_stepped_eq o k (hd k List.mem_cons_self) hl)]
    exact ih (swp o k) a b (fun s hs => by rw [swp_len]; exact hd s (List.mem_cons_of_mem _ hs)) (by rw [swp_len]; exact hl)
theorem g_at_first_eq (n : Nat) (h : n ≤ 1000) : g_at_first [.int (n : Int)] = .lst (nl (List.range n)) := by
  unfold g_at_first f_at_first
  simp [runB_e, bVar, rgA1_nat n (by omega), small_t (show n ≤ 100000 by omega)]
  rw [show nl (List.range n) = (List.range n).map iN from rfl, lcL_map (.nm 1) (eVar 1) _ iN iN _ (fun a _ => ⟨_, rfl, rfl⟩)]
  rfl
theorem g_law_first_eq (n : Nat) (h : n ≤ 1000) : g_law_first [.int (n : Int)] = .lst (nl (List.range n)) := g_at_first_eq n h
theorem g_law_danced_eq (o d : List Nat) (hd : ∀ s ∈ d, s + 1 < o.length) (hl : o.length ≤ 1000) : g_law_danced [.list (nl o), .list (nl d)] = .lst (nl (dnc o d)) := by
  unfold g_law_danced f_law_danced
  simp [runB_e, uVar, eVar]
  generalize hf : (sSeq (sAsgE 4 (b2 (uVar 2) (bVar 3) fun a b => ofO (idxD a b)))
  (sSeq (sPut 2 (bVar 3) (b2 (uVar 2) (b2 (bVar 3) (eC (.int 1)) fun a b => ofO (addI a b)) fun a b => ofO (idxD a b)))
  (sPut 2 (b2 (bVar 3) (eC (.int 1)) fun a b => ofO (addI a b)) (eVar 4)))) = f
  suffices h : ∀ (d o : List Nat) (a b : Slot), (∀ s ∈ d, s + 1 < o.length) → o.length ≤ 1000 → forL (.nm 3) [3, 4] f (nl d) [a, b, .ow (nl o), .no, .no] = .nx [a, b, .ow (nl (dnc o d)), .no, .no] by
    rw [h d o _ _ hd hl]
    simp [sRetO]
  intro d
  induction d with
  | nil => intro o a b _ _; rfl
  | cons k d ih =>
    intro o a b hd hl
    have hk := hd k List.mem_cons_self
    rw [nl_cons, forL_cons]
    subst hf
    simp [sPut, onOw, uVar, bVar, eVar, atI_nl1 o k hk, atI_nl o k (by omega), ixN_nat o.length k (by omega)]
    rw [show (k : Int) + 1 = ((k + 1 : Nat) : Int) by omega, ixN_nat _ (k + 1) (by omega)]
    simp
    rw [← nl_set, ← nl_set, swp_set o k hk]
    exact ih (swp o k) a b (fun s hs => by rw [swp_len]; exact hd s (List.mem_cons_of_mem _ hs)) (by rw [swp_len]; exact hl)
theorem g_is_number_eq (i a b : Int) : g_is_number [.int i, .int a, .int b] = .val (.bool (decide (a ≤ i ∧ i ≤ b))) := by
  unfold g_is_number f_is_number
  simp [runB_e, uVar, bVar]
  by_cases h : a ≤ i <;> by_cases g : i ≤ b <;> simp [h, g]
def nxK (kl : List Nat) (o : Out) : Option Ev := match o with
  | .nx e => some (killS kl e)
  | .ct e => some (killS kl e)
  | _ => none
@[simp] theorem nxK_nx (kl : List Nat) (e : Ev) : nxK kl (.nx e) = some (killS kl e) := rfl
@[simp] theorem nxK_ct (kl : List Nat) (e : Ev) : nxK kl (.ct e) = some (killS kl e) := rfl
theorem forL_step {t : Tg} {kl : List Nat} {f : SS} {d : PyData} {ds : List PyData} {e e1 e2 : Ev} (h1 : tgSet t d e = some e1) (h2 : nxK kl (f e1) = some e2) : forL t kl f (d :: ds) e = forL t kl f ds e2 := by
  rw [forL_cons, h1]
  simp only []
  cases h : f e1 with
  | nx x => rw [h] at h2; cases h2; rfl
  | ct x => rw [h] at h2; cases h2; rfl
  | _ => rw [h] at h2; cases h2
/-- a loop over states -/
theorem forL_fold {α β : Type} (t : Tg) (kl : List Nat) (f : SS) (en : α → PyData) (eb : β → Ev) (st : β → α → β) (I : β → List α → Prop)
    (h : ∀ b a l, I b (a :: l) → I (st b a) l ∧ ∃ e1, tgSet t (en a) (eb b) = some e1 ∧ nxK kl (f e1) = some (eb (st b a))) :
    ∀ (l : List α) (b : β), I b l → forL t kl f (l.map en) (eb b) = .nx (eb (l.foldl st b))
  | [], b, _ => rfl
  | a :: l, b, i => by
    obtain ⟨i2, e1, h1, h2⟩ := h b a l i
    rw [List.map_cons, forL_step h1 h2]
    exact forL_fold t kl f en eb st I h l _ i2
/-- a loop that only looks: each element passes -/
theorem forL_pass {α : Type} (t : Tg) (kl : List Nat) (f : SS) (e : Ev) (en : α → PyData) (l : List α) (h : ∀ a ∈ l, ∃ e1, tgSet t (en a) e = some e1 ∧ nxK kl (f e1) = some e) : forL t kl f (l.map en) e = .nx e :=
  forL_fold t kl f en (fun _ : Unit => e) (fun _ _ => ()) (fun _ r => ∀ a ∈ r, a ∈ l) (fun _ a r i => ⟨fun b hb => i b (List.mem_cons_of_mem _ hb), h a (i a List.mem_cons_self)⟩) l () fun _ h => h
/-- a dance of `n` dancers -/
structure Dn (n : Nat) (d : List Nat) : Prop where
  st : ∀ s ∈ d, s + 1 < n
  len : d.length ≤ 30
structure Nn (n : Nat) : Prop where
  lo : 1 ≤ n
  hi : n ≤ 7
theorem g_asked_dance_eq (n : Nat) (d : List Nat) (hn : Nn n) (hd : Dn n d) : g_asked_dance [.int (n : Int), .list (nl d)] = .lst (nl d) := by
  have l := hn.lo
  have h := hn.hi
  have l1 : (1 : Int) ≤ (n : Int) := by omega
  have h1 : (n : Int) ≤ 7 := by omega
  have dl : ¬ (30 : Int) < (d.length : Int) := by have := hd.len; omega
  unfold g_asked_dance f_asked_dance
  simp [runB_e, uVar, eVar, bVar, callV_eq (g_is_number_eq _ _ _), l1, h1, dl]
  rw [show nl d = d.map iN from rfl, forL_pass]
  · rfl
  · intro s hs
    have := hd.st s hs
    refine ⟨_, rfl, ?_⟩
    simp [uVar, eVar, bVar, callV_eq (g_is_number_eq _ _ _)]
    rw [decide_eq_true (by omega)]
    simp
theorem g_order_of_eq (n : Nat) (d : List Nat) (hn : Nn n) (hd : Dn n d) : g_order_of [.int (n : Int), .list (nl d)] = .lst (nl (dnc (List.range n) d)) := by
  unfold g_order_of f_order_of
  simp [runB_e, eVar, callL_eq (g_asked_dance_eq n d hn hd), callL_eq (g_at_first_eq n (by have := hn.hi; omega))]
  rw [callL_eq (n := 2) (g_danced_eq (List.range n) d (fun s hs => by rw [List.length_range]; exact hd.st s hs) (by rw [List.length_range]; have := hn.hi; omega)) rfl]
  rfl
/-! orders -/
structure Od (n : Nat) (o : List Nat) : Prop where
  pm : o.Perm (List.range n)
  nn : Nn n
theorem Od.len {n : Nat} {o : List Nat} (h : Od n o) : o.length = n := by rw [h.pm.length_eq, List.length_range]
theorem Od.nd {n : Nat} {o : List Nat} (h : Od n o) : o.Nodup := h.pm.nodup_iff.mpr List.nodup_range
theorem Od.lt {n : Nat} {o : List Nat} (h : Od n o) {a : Nat} : a ∈ o ↔ a < n := by rw [h.pm.mem_iff, List.mem_range]
theorem Od.le {n : Nat} {o : List Nat} (h : Od n o) : o.length ≤ 7 := by rw [h.len]; exact h.nn.hi
theorem od_range {n : Nat} (h : Nn n) : Od n (List.range n) := ⟨.refl _, h⟩
theorem od_dnc {n : Nat} {o : List Nat} (h : Od n o) (d : List Nat) : Od n (dnc o d) := ⟨(dnc_perm d o).trans h.pm, h.nn⟩
theorem g_asked_order_eq (n : Nat) (o : List Nat) (h : Od n o) : g_asked_order [.list (nl o)] = .lst (nl o) := by
  have l := h.len
  have l0 := h.nn.lo
  have l7 := h.nn.hi
  have l1 : (1 : Int) ≤ (o.length : Int) := by omega
  have h1 : (o.length : Int) ≤ 7 := by omega
  unfold g_asked_order f_asked_order
  simp [runB_e, uVar, eVar, bVar, l1, h1]
  rw [show nl o = o.map iN from rfl, forL_pass]
  · rfl
  · intro s hs
    have hs1 := h.lt.mp hs
    have hc : o.count s = 1 := (by rw [h.nd.count, if_pos hs])
    refine ⟨_, rfl, ?_⟩
    rw [show o.map iN = nl o from rfl]
    simp [uVar, eVar, bVar, callV_eq (g_is_number_eq _ _ _), bL, countD, count_nl, hc]
    rw [decide_eq_true (by omega)]
    simp
def inv : List Nat → List (Nat × Nat)
  | [] => []
  | a :: r => ((r.filter (· < a)).map fun b => (b, a)) ++ inv r
theorem inv_len : ∀ o : List Nat, (inv o).length ≤ o.length * o.length
  | [] => Nat.zero_le _
  | a :: r => by
    have := inv_len r
    have h2 := List.length_filter_le (· < a) r
    show (((r.filter (· < a)).map fun b => (b, a)) ++ inv r).length ≤ (r.length + 1) * (r.length + 1)
    rw [List.length_append, List.length_map, Nat.add_mul, Nat.mul_add]
    omega
theorem lc_pairs (r : List Nat) (a : Nat) (x0 x1 x2 : Slot) : lcL (.nm 4) (b1 (b2 (bVar 4) (bVar 3) fun a b => ofO (ltI a b)) asB) (b1 (aCons (eVar 4) (aCons (eVar 3) aNil)) tupL) (nl r) [x0, x1, x2, .fz (.int (a : Int)), .no] = .ok (pl ((r.filter (· < a)).map fun b => (b, a))) := by
  rw [show nl r = r.map iN from rfl, lcL_eq (.nm 4) _ _ _ iN (· < a) (fun b => pN (b, a)) r]
  · rw [pl, List.map_map]; rfl
  · intro b hb
    refine ⟨_, rfl, ?_, fun _ => ?_⟩
    · simp [bVar]
    · simp [eVar]
theorem pairs_loop (o : List Nat) (hl : o.length ≤ 7) (f : SS) (hf : f = (sExt 1 (lcF (.nm 4) [4] (b1 (b1 (b3 (uVar 0) (b1 (b2 (bVar 2) (eC (.int 1)) fun a b => ofO (addI a b)) asO) oNone fun d lo hi => ofO (cutD d lo hi)) okL) asL) (b1 (b2 (bVar 4) (bVar 3) fun a b => ofO (ltI a b)) asB) (b1 (aCons (eVar 4) (aCons (eVar 3) aNil)) tupL)))) :
    ∀ (r p : List Nat) (acc : List (Nat × Nat)), o = p ++ r → acc.length + (r.length * r.length) ≤ 100 →
      forL (.tp [2, 3]) [2, 3] f ((nl r).mapIdx fun i d => .tuple [.int ((p.length + i : Nat) : Int), d]) [.fz (.list (nl o)), .ow (pl acc), .no, .no, .no] = .nx [.fz (.list (nl o)), .ow (pl (acc ++ inv r)), .no, .no, .no] := by
  intro r
  induction r with
  | nil => intro p acc _ _; simp [inv]
  | cons a r ih =>
    intro p acc ho hacc
    have hd : o.drop (p.length + 1) = r := by rw [ho, List.drop_append]; simp
    have h2 := List.length_filter_le (· < a) r
    have hr : r.length ≤ 6 := by rw [ho] at hl; simp at hl; omega
    have hq : (r.length + 1) * (r.length + 1) = r.length * r.length + r.length + r.length + 1 := by rw [Nat.add_mul, Nat.mul_add]; omega
    rw [List.length_cons, hq] at hacc
    rw [nl_cons, List.mapIdx_cons, forL_step (e1 := [.fz (.list (nl o)), .ow (pl acc), .fz (.int (p.length : Int)), .fz (.int (a : Int)), .no]) (e2 := [.fz (.list (nl o)), .ow (pl (acc ++ (r.filter (· < a)).map fun b => (b, a))), .no, .no, .no])]
    · have := ih (p ++ [a]) (acc ++ (r.filter (· < a)).map fun b => (b, a)) (by rw [ho, List.append_assoc]; rfl) (by simp; omega)
      simp only [List.length_append, List.length_cons, List.length_nil] at this
      simp only [Nat.zero_add, Nat.add_assoc, Nat.add_comm 1] at this ⊢
      rw [this, inv, List.append_assoc]
    · simp [tgSet, setsE]
    · subst hf
      simp [sExt, onOw, uVar, bVar, eVar, cutG_fr1, ← nl_drop, hd, lc_pairs, small_t (show r.length ≤ 100000 by omega)]
      rw [small_t (by omega)]
      simp [pl_app]
/-- the pairs of an order, rising -/
def prs (o : List Nat) : List (Nat × Nat) := (List.range o.length).flatMap fun a => ((List.range' (a + 1) (o.length - (a + 1))).filter fun b => decide (o.idxOf b < o.idxOf a)).map fun b => (a, b)
def toI (p : Nat × Nat) : Int × Int := ((p.1 : Int), (p.2 : Int))
theorem pl_toI (l : List (Nat × Nat)) : (l.map toI).map pD = pl l := by rw [List.map_map]; rfl
theorem pairsOf_pl : ∀ l : List (Nat × Nat), (∀ p ∈ l, p.1 < 64 ∧ p.2 < 64) → pairsOf (pl l) = some (l.map toI)
  | [], _ => rfl
  | p :: l, h => by
    have h1 := h p List.mem_cons_self
    have e : pairOf (pN p) = some (toI p) := by
      unfold pairOf
      dsimp only
      rw [if_pos (decide_eq_true (by omega))]
      rfl
    show (match pairOf (pN p), pairsOf (pl l) with
      | some p, some ps => some (p :: ps)
      | _, _ => none) = _
    rw [e, pairsOf_pl l fun q hq => h q (List.mem_cons_of_mem _ hq)]
    rfl
theorem intsOf_pl (p : Nat × Nat) (l : List (Nat × Nat)) : intsOf (pl (p :: l)) = none := rfl
theorem sortD_pl (l m : List (Nat × Nat)) (h : ∀ p ∈ l, p.1 < 64 ∧ p.2 < 64) (len : l.length < 64) (pm : l.Perm m) (so : m.Pairwise fun a b => a.1 * 64 + a.2 ≤ b.1 * 64 + b.2) : sortD (.list (pl l)) = some (pl m) := by
  have key : sortK codeP (l.map toI) = m.map toI := by
    refine sorted_one (key := codeP) ((sortK_perm _ _).trans (pm.map toI)) (sortK_sorted _ _) ?_ ?_
    · rw [List.pairwise_map]
      refine so.imp ?_
      intro a b hab
      show (a.1 : Int) * 64 + (a.2 : Int) ≤ (b.1 : Int) * 64 + (b.2 : Int)
      omega
    · have hok : ∀ q ∈ sortK codeP (l.map toI), okP q := by
        intro q hq
        obtain ⟨p, hp, e⟩ := List.mem_map.mp ((sortK_perm _ _).mem_iff.mp hq)
        subst e
        have := h p hp
        refine ⟨?_, ?_, ?_, ?_⟩ <;> simp only [toI] <;> omega
      exact fun a ha b hb e => codeP_inj (hok a ha) (hok b hb) e
  unfold sortD
  rw [itemsD_l]
  dsimp only
  rw [if_pos (decide_eq_true (by rw [pl_len]; exact len))]
  cases l with
  | nil =>
    have : m = [] := List.Perm.nil_eq pm |>.symm
    subst this
    rfl
  | cons p l =>
    rw [intsOf_pl]
    dsimp only
    rw [pairsOf_pl _ h, Option.map_some, key, pl_toI]
theorem mem_inv : ∀ (o : List Nat) (p : Nat × Nat), o.Nodup → (p ∈ inv o ↔ p.1 < p.2 ∧ p.1 ∈ o ∧ p.2 ∈ o ∧ o.idxOf p.2 < o.idxOf p.1)
  | [], p, _ => by simp [inv]
  | a :: r, (x, y), hn => by
    have hn2 := List.nodup_cons.mp hn
    rw [inv, List.mem_append, mem_inv r (x, y) hn2.2]
    simp only [List.mem_map, List.mem_filter, decide_eq_true_eq, Prod.mk.injEq, List.mem_cons, List.idxOf_cons]
    constructor
    · rintro (⟨b, ⟨hb, hlt⟩, rfl, rfl⟩ | ⟨h1, h2, h3, h4⟩)
      · refine ⟨hlt, .inr hb, .inl rfl, ?_⟩
        have : (a == b) = false := by simp; omega
        simp [this]
      · have e1 : (a == x) = false := by simp; intro e; exact hn2.1 (e ▸ h2)
        have e2 : (a == y) = false := by simp; intro e; exact hn2.1 (e ▸ h3)
        simp [e1, e2]
        exact ⟨h1, .inr h2, .inr h3, h4⟩
    · rintro ⟨h1, h2, h3, h4⟩
      rcases h3 with rfl | h3
      · left
        rcases h2 with rfl | h2
        · omega
        · exact ⟨x, ⟨h2, h1⟩, rfl, rfl⟩
      · have e2 : (a == y) = false := by simp; intro e; exact hn2.1 (e ▸ h3)
        rcases h2 with rfl | h2
        · simp [e2] at h4
        · have e1 : (a == x) = false := by simp; intro e; exact hn2.1 (e ▸ h2)
          simp [e1, e2] at h4
          exact .inr ⟨h1, h2, h3, h4⟩
theorem inv_nodup : ∀ o : List Nat, o.Nodup → (inv o).Nodup
  | [], _ => List.nodup_nil
  | a :: r, hn => by
    have hn2 := List.nodup_cons.mp hn
    rw [inv, List.nodup_append]
    refine ⟨?_, inv_nodup r hn2.2, ?_⟩
    · rw [List.Nodup, List.pairwise_map]
      exact (hn2.2.filter _).imp fun h e => h (Prod.mk.inj e).1
    · intro p hp q hq e
      subst e
      obtain ⟨b, hb, e⟩ := List.mem_map.mp hp
      subst e
      exact hn2.1 ((mem_inv r _ hn2.2).mp hq).2.2.1
theorem mem_prs (o : List Nat) (p : Nat × Nat) : p ∈ prs o ↔ p.1 < p.2 ∧ p.2 < o.length ∧ o.idxOf p.2 < o.idxOf p.1 := by
  obtain ⟨x, y⟩ := p
  unfold prs
  simp only [List.mem_flatMap, List.mem_range, List.mem_map, List.mem_filter, List.mem_range'_1, decide_eq_true_eq, Prod.mk.injEq]
  constructor
  · rintro ⟨a, ha, b, ⟨⟨h1, h2⟩, h3⟩, rfl, rfl⟩
    exact ⟨by omega, by omega, h3⟩
  · rintro ⟨h1, h2, h3⟩
    exact ⟨x, by omega, y, ⟨⟨by omega, by omega⟩, h3⟩, rfl, rfl⟩
theorem prs_sorted (o : List Nat) (h : o.length ≤ 63) : (prs o).Pairwise fun a b => a.1 * 64 + a.2 < b.1 * 64 + b.2 := by
  unfold prs
  rw [List.pairwise_flatMap]
  constructor
  · intro a ha
    rw [List.pairwise_map]
    refine (List.Pairwise.filter _ List.pairwise_lt_range').imp ?_
    intro x y hxy
    simp only
    omega
  · refine List.pairwise_lt_range.imp_of_mem ?_
    intro a b ha hb hab p hp q hq
    obtain ⟨x, hx, rfl⟩ := List.mem_map.mp hp
    obtain ⟨y, hy, rfl⟩ := List.mem_map.mp hq
    have hx := (List.mem_range'_1.mp (List.mem_filter.mp hx).1)
    simp only
    have := List.mem_range.mp ha
    omega
theorem prs_nodup (o : List Nat) (h : o.length ≤ 63) : (prs o).Nodup := (prs_sorted o h).imp fun h e => by subst e; omega
theorem inv_prs {n : Nat} {o : List Nat} (h : Od n o) : (inv o).Perm (prs o) := by
  have hl := h.le
  refine (List.perm_ext_iff_of_nodup (inv_nodup o h.nd) (prs_nodup o (by omega))).mpr fun p => ?_
  rw [mem_inv o p h.nd, mem_prs, h.lt, h.lt, h.len]
  constructor
  · rintro ⟨a, b, c, d⟩; exact ⟨a, c, d⟩
  · rintro ⟨a, b, c⟩; exact ⟨a, by omega, b, c⟩
theorem g_pairs_in_eq {n : Nat} {o : List Nat} (h : Od n o) : g_pairs_in [.list (nl o)] = .lst (pl (prs o)) := by
  have hl := h.le
  have hL := inv_len o
  have h49 : o.length * o.length ≤ 49 := Nat.mul_le_mul hl hl
  unfold g_pairs_in f_pairs_in
  simp [runB_e, uVar, eVar, enD]
  have := pairs_loop o hl _ rfl o [] [] rfl (by simp; omega)
  simp only [List.length_nil, Nat.zero_add, List.nil_append, pl_nil] at this
  rw [this]
  simp
  rw [sortD_pl (inv o) (prs o) ?_ (by omega) (inv_prs h) ((prs_sorted o (by omega)).imp Nat.le_of_lt)]
  · rfl
  · intro p hp
    have := (mem_inv o p h.nd).mp hp
    have h1 := h.lt.mp this.2.1
    have h2 := h.lt.mp this.2.2.1
    have := h.nn.hi
    omega
theorem g_crossed_eq {n : Nat} {o : List Nat} (h : Od n o) : g_crossed [.list (nl o)] = .lst (pl (prs o)) := by
  unfold g_crossed f_crossed
  simp [runB_e, eVar, callL_eq (g_asked_order_eq n o h), callL_eq (g_pairs_in_eq h)]
end PM
end
section
set_option Elab.async false
set_option linter.all false
set_option maxRecDepth 100000
set_option autoImplicit false
set_option maxHeartbeats 1000000
/-! the laws' own functions: cells, draws, dances, pairs -/
namespace PM
open PySem L2 VL PF
theorem g_cell (ns : List Int) (k : Nat) : ∃ c : Int, g_law_cell_at [scrD ns, .int (k : Int)] = .val (.int c) := by
  have e : itemsD (scrD ns) = some (ns.map .int) := rfl
  have l : lenD [scrD ns] = some (.int (ns.length : Int)) := by
    show some (PyData.int ((ns.map PyData.int).length : Int)) = _
    rw [List.length_map]
  unfold g_law_cell_at f_law_cell_at
  by_cases h : k < ns.length
  · refine ⟨ns[k], ?_⟩
    have hk : (k : Int) < (ns.length : Int) := by omega
    have ix : idxD (scrD ns) (.int (k : Int)) = some (.int ns[k]) := by
      show atI (ns.map PyData.int) (k : Int) = _
      rw [atI_nat _ _ (by rw [List.length_map]; exact h), List.getElem?_map, List.getElem?_eq_getElem h]
      rfl
    simp only [runB_e, sSeq_e, sIf_e, b1_e, b2_e, bVar, uVar, aCons_e, aNil_e, List.map_cons, List.map_nil, List.length_cons, List.length_nil, List.cons_append, List.nil_append, List.getElem?_cons_succ, List.getElem?_cons_zero, bind_ok, l, ofO_some, ltI_i, asB_e, thn_ok, sRetE_e, ix, finF_rt, decide_eq_true hk]
  · refine ⟨0, ?_⟩
    have hk : ¬ (k : Int) < (ns.length : Int) := by omega
    simp only [runB_e, sSeq_e, sIf_e, b1_e, b2_e, bVar, uVar, aCons_e, aNil_e, List.map_cons, List.map_nil, List.length_cons, List.length_nil, List.cons_append, List.nil_append, List.getElem?_cons_succ, List.getElem?_cons_zero, bind_ok, l, ofO_some, ltI_i, asB_e, thn_ok, sRetE_e, finF_rt, decide_eq_false hk, sNil_e, eC_e]
theorem mulI_l (i j : Int) (h : -(2 ^ 64) < i ∧ i < 2 ^ 64) : mulI (.int i) (.int j) = some (.int (i * j)) := by
  show (if (decide (-(2 ^ 64) < i ∧ i < 2 ^ 64) || decide (-(2 ^ 64) < j ∧ j < 2 ^ 64)) = true then some (PyData.int (i * j)) else none) = _
  rw [decide_eq_true h]
  rfl
theorem mulI_r (i j : Int) (h : -(2 ^ 64) < j ∧ j < 2 ^ 64) : mulI (.int i) (.int j) = some (.int (i * j)) := by
  show (if (decide (-(2 ^ 64) < i ∧ i < 2 ^ 64) || decide (-(2 ^ 64) < j ∧ j < 2 ^ 64)) = true then some (PyData.int (i * j)) else none) = _
  rw [decide_eq_true h, Bool.or_true]
  rfl
theorem divI_t (i j : Int) (h : 0 < j ∧ j < 1073741824) : divI (.int i) (.int j) = some (.int (i / j)) := by
  show (if decide (0 < j ∧ j < 1073741824) = true then some (PyData.int (i / j)) else none) = _
  rw [decide_eq_true h, if_pos rfl]
theorem modI_t (i j : Int) (h : 0 < j) : modI (.int i) (.int j) = some (.int (i % j)) := by
  show (if decide (0 < j) = true then some (PyData.int (i % j)) else none) = _
  rw [decide_eq_true h, if_pos rfl]
def drw (c k m : Int) : Int :=
  let x := (c % 1000000007 * 48271 + k * 69621 + 7) % 1000000007
  x * x / 1013 % 1000003 % m
theorem g_draw (c k m : Int) (h : 0 < m) : g_law_draw [.int c, .int k, .int m] = .val (.int (drw c k m)) := by
  unfold g_law_draw f_law_draw
  have hx : ∀ x : Int, -(2 ^ 64) < x % 1000000007 ∧ x % 1000000007 < 2 ^ 64 := fun x => by omega
  simp only [runB_e, sSeq_e, sAsgE_e, b1_e, b2_e, bVar, uVar, aCons_e, aNil_e, List.map_cons, List.map_nil, List.length_cons, List.length_nil, List.cons_append, List.nil_append, List.getElem?_cons_succ, List.getElem?_cons_zero, bind_ok, ofO_some, thn_ok, sRetE_e, finF_rt, eC_e, modI_t _ 1000000007 (by decide), modI_t _ 1000003 (by decide), modI_t _ m h, mulI_r _ 48271 (by decide), mulI_r _ 69621 (by decide), addI_i, mulI_l _ _ (hx _), divI_t _ 1013 (by decide), Nat.reduceAdd, Nat.reduceSub, List.replicate_succ, List.replicate_zero, List.set_cons_succ, List.set_cons_zero]
  rfl
theorem drw_nat (c k : Int) (m : Nat) (h : 0 < m) : ∃ r : Nat, r < m ∧ drw c k (m : Int) = (r : Int) := by
  have h1 := Int.emod_nonneg (((c % 1000000007 * 48271 + k * 69621 + 7) % 1000000007) * ((c % 1000000007 * 48271 + k * 69621 + 7) % 1000000007) / 1013 % 1000003) (show (m : Int) ≠ 0 by omega)
  have h2 := Int.emod_lt_of_pos (((c % 1000000007 * 48271 + k * 69621 + 7) % 1000000007) * ((c % 1000000007 * 48271 + k * 69621 + 7) % 1000000007) / 1013 % 1000003) (show (0 : Int) < (m : Int) by omega)
  refine ⟨(drw c k (m : Int)).toNat, ?_, ?_⟩ <;> unfold drw <;> dsimp only <;> omega
/-- a drawn number -/
theorem g_drawn (c k : Int) (m : Nat) (h : 0 < m) : ∃ r : Nat, r < m ∧ g_law_draw [.int c, .int k, .int (m : Int)] = .val (.int (r : Int)) := by
  obtain ⟨r, h1, h2⟩ := drw_nat c k m h
  exact ⟨r, h1, by rw [g_draw _ _ _ (by omega), h2]⟩
theorem g_law_dance_eq (c : Int) (n most : Nat) (hn : 1 ≤ n) (hm : most ≤ 1000) : ∃ d : List Nat, d.length ≤ most ∧ (∀ s ∈ d, s + 1 < n) ∧ g_law_dance [.int c, .int (n : Int), .int (most : Int)] = .lst (nl d) := by
  unfold g_law_dance f_law_dance
  by_cases h1 : n = 1
  · subst h1
    exact ⟨[], Nat.zero_le _, fun s hs => absurd hs (by simp), by simp [runB_e, bVar]⟩
  · obtain ⟨m, hm1, hm2⟩ := g_drawn c 1 (most + 1) (by omega)
    have hm2 : g_law_draw [.int c, .int 1, .int ((most : Int) + 1)] = .val (.int (m : Int)) := hm2
    have hn1 : ¬ (n : Int) = 1 := by omega
    refine ⟨(List.range m).map fun (k : Nat) => (drw (c + 31 * (k : Int)) 2 ((n : Int) - 1)).toNat, by rw [List.length_map, List.length_range]; omega, ?_, ?_⟩
    · intro s hs
      obtain ⟨k, _, e⟩ := List.mem_map.mp hs
      obtain ⟨r, hr, e2⟩ := drw_nat (c + 31 * (k : Int)) 2 (n - 1) (by omega)
      rw [show ((n - 1 : Nat) : Int) = (n : Int) - 1 by omega] at e2
      rw [e2] at e
      omega
    · simp [runB_e, bVar, eVar, callV_eq hm2, hn1, rgA1_nat m (by omega), small_t (show m ≤ 100000 by omega)]
      rw [show nl (List.range m) = (List.range m).map iN from rfl, lcL_map (.nm 4) _ _ iN (fun (k : Nat) => iN (drw (c + 31 * (k : Int)) 2 ((n : Int) - 1)).toNat) (List.range m)]
      · simp
        rw [nl, List.map_map]
        rfl
      · intro k hk
        refine ⟨_, rfl, ?_⟩
        obtain ⟨r, hr, e2⟩ := drw_nat (c + 31 * (k : Int)) 2 (n - 1) (by omega)
        rw [show ((n - 1 : Nat) : Int) = (n : Int) - 1 by omega] at e2
        simp [bVar, mulI_l 31 _ (by decide), callV_eq (g_draw _ _ _ (show (0 : Int) < (n : Int) - 1 by omega)), e2]
theorem indexD_nl (o : List Nat) (x : Nat) (h : x ∈ o) : indexD (nl o) (.int (x : Int)) = some (.int ((o.idxOf x : Nat) : Int)) := by
  unfold indexD
  rw [findD_nl o x h]
  rfl
theorem foldl_app {α γ : Type} (g : α → List γ) : ∀ (l : List α) (b : List γ), l.foldl (fun b a => b ++ g a) b = b ++ l.flatMap g
  | [], b => by simp
  | a :: l, b => by rw [List.foldl_cons, foldl_app g l, List.flatMap_cons, List.append_assoc]
/-- a loop that gathers: each element adds its part -/
theorem forL_gather {α γ : Type} (t : Tg) (kl : List Nat) (f : SS) (en : α → PyData) (eb : List γ → Ev) (g : α → List γ) (l : List α) (cap : Nat)
    (h : ∀ b a, a ∈ l → b.length + (g a).length ≤ cap → ∃ e1, tgSet t (en a) (eb b) = some e1 ∧ nxK kl (f e1) = some (eb (b ++ g a))) (b : List γ) (hc : b.length + (l.flatMap g).length ≤ cap) : forL t kl f (l.map en) (eb b) = .nx (eb (b ++ l.flatMap g)) := by
  have := forL_fold t kl f en eb (fun b a => b ++ g a) (fun b r => (∀ a ∈ r, a ∈ l) ∧ b.length + (r.flatMap g).length ≤ cap) (fun b a r i => by
    have i2 := i.2
    rw [List.flatMap_cons, List.length_append] at i2
    refine ⟨⟨fun c hc => i.1 c (List.mem_cons_of_mem _ hc), ?_⟩, h b a (i.1 a List.mem_cons_self) (by omega)⟩
    simp only [List.length_append]; omega) l b ⟨fun _ h => h, hc⟩
  rw [this, foldl_app]
theorem flatMap_if {α β : Type} (p : α → Prop) [DecidablePred p] (f : α → β) : ∀ l : List α, l.flatMap (fun b => if p b then [f b] else []) = (l.filter fun b => decide (p b)).map f
  | [] => rfl
  | a :: l => by
    rw [List.flatMap_cons, flatMap_if p f l, List.filter_cons]
    by_cases h : p a <;> simp [h]
theorem prs_len {n : Nat} {o : List Nat} (h : Od n o) : (prs o).length ≤ 49 := by
  rw [← (inv_prs h).length_eq]
  have := inv_len o
  have h49 : o.length * o.length ≤ 49 := Nat.mul_le_mul h.le h.le
  omega
theorem g_law_pairs_eq {n : Nat} {o : List Nat} (h : Od n o) : g_law_pairs [.list (nl o)] = .lst (pl (prs o)) := by
  have hl := h.le
  have hp := prs_len h
  unfold g_law_pairs f_law_pairs
  simp [runB_e, uVar, eVar, bVar, rgA1_nat o.length (by omega)]
  generalize hfi : (sIf (b1 (b2 (bL (bVar 0) (bVar 3) indexD) (bL (bVar 0) (bVar 2) indexD) fun a b => ofO (ltI a b)) asB) (sApp 1 (b1 (aCons (eVar 2) (aCons (eVar 3) aNil)) tupL)) sNil) = fi
  rw [show nl (List.range o.length) = (List.range o.length).map iN from rfl]
  have := forL_gather (.nm 2) [2, 3] (sFor (.nm 3) [3] (b1 (aCons (b2 (bVar 2) (eC (.int 1)) fun a b => ofO (addI a b)) (aCons (b1 (aCons (bVar 0) aNil) fun ds => ofO (lenD ds)) aNil)) fun ds => ofO (rgA2 ds)) fi) iN (fun acc => [.fz (.list (nl o)), .ow (pl acc), .no, .no])
    (fun a => ((List.range' (a + 1) (o.length - (a + 1))).filter fun b => decide (o.idxOf b < o.idxOf a)).map fun b => (a, b)) (List.range o.length) 100 ?_ [] ?_
  · simp only [pl_nil, List.nil_append] at this
    rw [this]
    simp [sRetO, prs]
  · intro acc a ha hc
    have ha := List.mem_range.mp ha
    refine ⟨_, rfl, ?_⟩
    simp [bVar, rgA2_nat1 a o.length (by omega) (by omega)]
    rw [show nl (List.range' (a + 1) (o.length - (a + 1))) = (List.range' (a + 1) (o.length - (a + 1))).map iN from rfl]
    have := forL_gather (.nm 3) [3] fi iN (fun acc => [.fz (.list (nl o)), .ow (pl acc), .fz (.int (a : Int)), .no]) (fun b => if o.idxOf b < o.idxOf a then [(a, b)] else []) (List.range' (a + 1) (o.length - (a + 1))) 100 ?_ acc ?_
    · rw [this]
      rw [flatMap_if]
      simp
    · intro acc b hb hc
      have hb := List.mem_range'_1.mp hb
      refine ⟨_, rfl, ?_⟩
      have hl2 := h.len
      subst hfi
      simp [bVar, eVar, bL, indexD_nl o a (h.lt.mpr (by omega)), indexD_nl o b (h.lt.mpr (by omega)), sApp, onOw]
      by_cases hi : o.idxOf b < o.idxOf a
      · simp [hi, small_t (show acc.length + 1 ≤ 100000 by omega), pl_app]
      · simp [hi]
    · rw [flatMap_if]
      exact hc
  · show 0 + (prs o).length ≤ 100
    omega
end PM
end
section
set_option Elab.async false
set_option linter.all false
set_option maxRecDepth 100000
set_option autoImplicit false
set_option maxHeartbeats 1000000
/-! steps that undo a crossing; shortest dances; drawn orders -/
namespace PM
open PySem L2 VL PF
def cnt (a : Nat) (l : List Nat) : Nat := (l.filter (· < a)).length
def invs (o : List Nat) : Nat := (inv o).length
theorem invs_cons (a : Nat) (r : List Nat) : invs (a :: r) = cnt a r + invs r := by
  unfold invs cnt
  rw [inv, List.length_append, List.length_map]
theorem cnt_cons (a b : Nat) (r : List Nat) : cnt a (b :: r) = (if b < a then 1 else 0) + cnt a r := by
  unfold cnt
  rw [List.filter_cons]
  by_cases h : b < a
  · simp [h]; omega
  · simp [h]
theorem cnt_perm (a : Nat) {l m : List Nat} (h : l.Perm m) : cnt a l = cnt a m := (h.filter _).length_eq
theorem swp_down : ∀ (o : List Nat) (k : Nat), k + 1 < o.length → o[k + 1]?.getD 0 < o[k]?.getD 0 → invs (swp o k) + 1 = invs o
  | [], k, h, _ => by simp at h
  | [a], k, h, _ => by simp at h
  | a :: b :: r, 0, _, h => by
    simp at h
    rw [show swp (a :: b :: r) 0 = b :: a :: r from rfl, invs_cons, invs_cons, invs_cons, invs_cons, cnt_cons, cnt_cons, if_pos h, if_neg (by omega)]
    omega
  | a :: b :: r, k + 1, hk, h => by
    have := swp_down (b :: r) k (by simp at hk ⊢; omega) (by simpa using h)
    rw [show swp (a :: b :: r) (k + 1) = a :: swp (b :: r) k from rfl, invs_cons, invs_cons a, cnt_perm a (swp_perm _ _)]
    omega
theorem swp_up : ∀ (o : List Nat) (k : Nat), k + 1 < o.length → o[k]?.getD 0 < o[k + 1]?.getD 0 → invs (swp o k) = invs o + 1
  | [], k, h, _ => by simp at h
  | [a], k, h, _ => by simp at h
  | a :: b :: r, 0, _, h => by
    simp at h
    rw [show swp (a :: b :: r) 0 = b :: a :: r from rfl, invs_cons, invs_cons, invs_cons, invs_cons, cnt_cons, cnt_cons, if_pos h, if_neg (by omega)]
    omega
  | a :: b :: r, k + 1, hk, h => by
    have := swp_up (b :: r) k (by simp at hk ⊢; omega) (by simpa using h)
    rw [show swp (a :: b :: r) (k + 1) = a :: swp (b :: r) k from rfl, invs_cons, invs_cons a, cnt_perm a (swp_perm _ _)]
    omega
theorem swp_swp : ∀ (o : List Nat) (k : Nat), swp (swp o k) k = o
  | [], k => rfl
  | [a], k => rfl
  | a :: b :: r, 0 => rfl
  | a :: b :: r, k + 1 => by
    have h := swp_swp (b :: r) k
    have hl := swp_len (b :: r) k
    show swp (a :: swp (b :: r) k) (k + 1) = _
    cases hs : swp (b :: r) k with
    | nil => rw [hs] at hl; simp at hl
    | cons c t =>
      show a :: swp (c :: t) k = _
      rw [← hs, h]
theorem desc_ex : ∀ o : List Nat, invs o ≠ 0 → ∃ k, k + 1 < o.length ∧ o[k + 1]?.getD 0 < o[k]?.getD 0
  | [], h => absurd rfl h
  | [a], h => absurd rfl h
  | a :: b :: r, h => by
    by_cases hb : b < a
    · exact ⟨0, by simp, by simpa using hb⟩
    · by_cases hr : invs (b :: r) = 0
      · exfalso
        have h1 : cnt a r = 0 := by
          have h2 : cnt b r = 0 := by rw [invs_cons] at hr; omega
          unfold cnt at h2 ⊢
          rw [List.length_eq_zero_iff, List.filter_eq_nil_iff] at h2 ⊢
          intro x hx
          have := h2 x hx
          simp at this ⊢
          omega
        rw [invs_cons, cnt_cons, if_neg hb] at h
        omega
      · obtain ⟨k, h1, h2⟩ := desc_ex (b :: r) hr
        exact ⟨k + 1, by simp at h1 ⊢; omega, by simpa using h2⟩
theorem invs_sorted : ∀ o : List Nat, invs o = 0 → o.Pairwise (· ≤ ·)
  | [], _ => .nil
  | a :: r, h => by
    rw [invs_cons] at h
    refine .cons (fun b hb => ?_) (invs_sorted r (by omega))
    have h2 : cnt a r = 0 := by omega
    unfold cnt at h2
    rw [List.length_eq_zero_iff, List.filter_eq_nil_iff] at h2
    have := h2 b hb
    simp at this
    omega
theorem invs_range (n : Nat) : invs (List.range n) = 0 := by
  by_cases h : invs (List.range n) = 0
  · exact h
  · obtain ⟨k, h1, h2⟩ := desc_ex _ h
    rw [List.length_range] at h1
    rw [List.getElem?_range (by omega), List.getElem?_range (by omega)] at h2
    simp at h2
    omega
theorem range_of {n : Nat} {o : List Nat} (h : Od n o) (h0 : invs o = 0) : o = List.range n :=
  sorted_one (key := fun (m : Nat) => (m : Int)) h.pm ((invs_sorted o h0).imp fun h => by omega) ((invs_sorted _ (invs_range n)).imp fun h => by omega) fun a _ b _ h => by omega
theorem invs_le {n : Nat} {o : List Nat} (h : Od n o) : invs o ≤ 49 := by
  have := prs_len h
  rw [← (inv_prs h).length_eq] at this
  exact this
theorem cnt_le (a : Nat) (l : List Nat) : cnt a l ≤ l.length := List.length_filter_le _ _
theorem invs_tri : ∀ o : List Nat, 2 * invs o ≤ o.length * (o.length - 1)
  | [] => by simp [invs, inv]
  | a :: r => by
    have := invs_tri r
    have h2 := cnt_le a r
    rw [invs_cons, List.length_cons]
    simp only [Nat.add_sub_cancel]
    cases hr : r.length with
    | zero => rw [hr] at this h2; simp at this h2 ⊢; omega
    | succ m =>
      rw [hr] at this h2
      simp only [Nat.add_sub_cancel] at this
      have e : (m + 1 + 1) * (m + 1) = (m + 1) * m + 2 * (m + 1) := by
        rw [Nat.add_mul (m + 1) 1 (m + 1), Nat.mul_add (m + 1) m 1]; omega
      omega
theorem invs_21 {n : Nat} {o : List Nat} (h : Od n o) : invs o ≤ 21 := by
  have h1 := invs_tri o
  rw [h.len] at h1
  have h7 := h.nn.hi
  have : n * (n - 1) ≤ 7 * 6 := Nat.mul_le_mul h7 (by omega)
  omega
theorem od_swp {n : Nat} {o : List Nat} (h : Od n o) (k : Nat) : Od n (swp o k) := ⟨(swp_perm o k).trans h.pm, h.nn⟩
/-- steps that undo crossings lead from `o` to `o'` -/
inductive Dw (n : Nat) (o : List Nat) : List Nat → List Nat → Prop where
  | nil : Dw n o [] o
  | snoc {l o' : List Nat} {k : Nat} : Dw n o l o' → k + 1 < n → o'[k + 1]?.getD 0 < o'[k]?.getD 0 → Dw n o (l ++ [k]) (swp o' k)
theorem dnc_app (o a b : List Nat) : dnc o (a ++ b) = dnc (dnc o a) b := List.foldl_append
theorem Dw.all {n : Nat} {o l o' : List Nat} (h : Dw n o l o') (ho : Od n o) : Od n o' ∧ dnc o' l.reverse = o ∧ invs o = invs o' + l.length ∧ ∀ s ∈ l, s + 1 < n := by
  induction h with
  | nil => exact ⟨ho, rfl, rfl, fun _ h => by cases h⟩
  | @snoc l o' k d hk hd ih =>
    obtain ⟨h1, h2, h3, h4⟩ := ih
    refine ⟨od_swp h1 _, ?_, ?_, ?_⟩
    · rw [List.reverse_append]
      have : ∀ (x : List Nat) (k : Nat), dnc (swp x k) ([k] ++ l.reverse) = dnc x l.reverse := fun x k => by
        show dnc (swp (swp x k) k) _ = _
        rw [swp_swp]
        rfl
      exact (this _ _).trans h2
    · have := swp_down _ _ (by rw [h1.len]; exact hk) hd
      rw [List.length_append]
      simp
      omega
    · intro s hs
      rcases List.mem_append.mp hs with hs | hs
      · exact h4 s hs
      · rw [List.mem_singleton.mp hs]; exact hk
/-- a shortest dance -/
structure Sd (n : Nat) (o d : List Nat) : Prop where
  st : ∀ s ∈ d, s + 1 < n
  mks : dnc (List.range n) d = o
  len : d.length = invs o
theorem Dw.sd {n : Nat} {o l : List Nat} (h : Dw n o l (List.range n)) (ho : Od n o) : Sd n o l.reverse := by
  obtain ⟨_, h2, h3, h4⟩ := h.all ho
  exact ⟨fun s hs => h4 s (List.mem_reverse.mp hs), h2, by rw [List.length_reverse, h3, invs_range, Nat.zero_add]⟩
theorem Sd.dn {n : Nat} {o d : List Nat} (h : Sd n o d) (ho : Od n o) : Dn n d := ⟨h.st, by rw [h.len]; have := invs_21 ho; omega⟩
theorem sWhile_t {c : Ev → Res Bool} {kl : List Nat} {f : SS} {m : Nat} {e e2 : Ev} (h1 : c e = .ok true) (h2 : nxK kl (f e) = some e2) : sWhile c kl f (m + 1) e = sWhile c kl f m e2 := by
  simp only [sWhile, h1]
  cases h : f e with
  | nx x => rw [h] at h2; cases h2; rfl
  | ct x => rw [h] at h2; cases h2; rfl
  | _ => rw [h] at h2; cases h2
theorem sWhile_f {c : Ev → Res Bool} {kl : List Nat} {f : SS} {m : Nat} {e : Ev} (h1 : c e = .ok false) : sWhile c kl f (m + 1) e = .nx e := by
  simp only [sWhile, h1]
/-- the end of a walk without falls is the first order -/
theorem asc_range {n : Nat} {o : List Nat} (h : Od n o) (hp : ∀ i, i + 1 < n → o[i]?.getD 0 < o[i + 1]?.getD 0) : o = List.range n := by
  refine range_of h ?_
  by_cases h0 : invs o = 0
  · exact h0
  · obtain ⟨k, h1, h2⟩ := desc_ex _ h0
    rw [h.len] at h1
    have := hp k h1
    omega
theorem at_ne {n : Nat} {o : List Nat} (h : Od n o) (k : Nat) (hk : k + 1 < n) : o[k]?.getD 0 ≠ o[k + 1]?.getD 0 := by
  have hl := h.len
  rw [List.getElem?_eq_getElem (by omega), List.getElem?_eq_getElem (by omega)]
  simp only [Option.getD_some]
  intro e
  have := (List.nodup_iff_pairwise_ne.mp h.nd)
  rw [List.pairwise_iff_getElem] at this
  exact this k (k + 1) (by omega) (by omega) (by omega) e
theorem g_way_to_ex {n : Nat} {o : List Nat} (h : Od n o) : ∃ d, g_way_to [.list (nl o)] = .lst (nl d) ∧ Sd n o d := by
  have h7 := h.nn.hi
  suffices hw : ∀ (c : Ev → Res Bool) (f : SS), c = (b1 (b2 (b2 (bVar 3) (eC (.int 1)) fun a b => ofO (addI a b)) (b1 (aCons (bVar 1) aNil) fun ds => ofO (lenD ds)) fun a b => ofO (ltI a b)) asB) →
      f = (sIf (b1 (b2 (b2 (uVar 1) (bVar 3) fun a b => ofO (idxD a b)) (b2 (uVar 1) (b2 (bVar 3) (eC (.int 1)) fun a b => ofO (addI a b)) fun a b => ofO (idxD a b)) fun a b => ofO (gtI a b)) asB) (sSeq (sAsgE 1 (b1 (b1 (aCons (eVar 1) (aCons (eVar 3) aNil)) (callL g_stepped 2)) okL))
  (sSeq (sApp 2 (eVar 3))
  (sAsgE 3 (eC (.int 0))))) (sAsgE 3 (b2 (bVar 3) (eC (.int 1)) fun a b => ofO (addI a b)))) →
      ∀ (m : Nat) (now l : List Nat) (p : Nat), Od n now → Dw n o l now → (∀ i, i < p → now[i]?.getD 0 < now[i + 1]?.getD 0) → p ≤ 7 → invs now * 8 + (8 - p) < m →
        ∃ l' p', sWhile c [] f m [.fz (.list (nl o)), .fz (.list (nl now)), .ow (nl l), .fz (.int (p : Int))] = .nx [.fz (.list (nl o)), .fz (.list (nl (List.range n))), .ow (nl l'), .fz (.int (p' : Nat))] ∧ Dw n o l' (List.range n) by
    obtain ⟨l', p', e, hd⟩ := hw _ _ rfl rfl 1000 o [] 0 h .nil (fun i hi => by omega) (by omega) (by have := invs_21 h; omega)
    refine ⟨l'.reverse, ?_, hd.sd h⟩
    unfold g_way_to f_way_to
    simp [runB_e, uVar]
    rw [nl_nil] at e
    have e : sWhile _ [] _ 1000 [.fz (.list (nl o)), .fz (.list (nl o)), .ow [], .fz (.int 0)] = _ := e
    rw [e]
    simp [nl_rev]
  intro c f hc hf m
  induction m with
  | zero => intro _ _ _ _ _ _ _ hm; omega
  | succ m ih =>
    intro now l p hn hd hp hp7 hm
    have hlen := hn.len
    by_cases hlt : p + 1 < n
    · have h1 : c [.fz (.list (nl o)), .fz (.list (nl now)), .ow (nl l), .fz (.int (p : Int))] = .ok true := by
        subst hc
        have : (p : Int) + 1 < (now.length : Int) := by omega
        simp [bVar, this]
      by_cases hgt : now[p + 1]?.getD 0 < now[p]?.getD 0
      · have hsw := swp_down now p (by omega) hgt
        have hll := (hd.all h).2.2.1
        have h21 := invs_21 h
        obtain ⟨l', p', e, hd'⟩ := ih (swp now p) (l ++ [p]) 0 (od_swp hn p) (hd.snoc hlt hgt) (fun i hi => by omega) (by omega) (by omega)
        refine ⟨l', p', ?_, hd'⟩
        rw [sWhile_t h1 (e2 := [.fz (.list (nl o)), .fz (.list (nl (swp now p))), .ow (nl (l ++ [p])), .fz (.int (0 : Nat))])]
        · exact e
        · subst hf
          simp [uVar, bVar, eVar, atI_nl now p (by omega), atI_nl1 now p (by omega), decide_eq_true hgt, callL_eq (n := 2) (g_stepped_eq now p (by omega) (by omega)), sApp, onOw, small_t (show l.length + 1 ≤ 100000 by omega), nl_app]
      · have hne := at_ne hn p hlt
        obtain ⟨l', p', e, hd'⟩ := ih now l (p + 1) hn hd (fun i hi => by
          by_cases e : i = p
          · subst e; omega
          · exact hp i (by omega)) (by omega) (by omega)
        refine ⟨l', p', ?_, hd'⟩
        rw [sWhile_t h1 (e2 := [.fz (.list (nl o)), .fz (.list (nl now)), .ow (nl l), .fz (.int ((p + 1 : Nat) : Int))])]
        · exact e
        · subst hf
          simp [uVar, bVar, eVar, atI_nl now p (by omega), atI_nl1 now p (by omega), decide_eq_false hgt]
    · have hr : now = List.range n := asc_range hn fun i hi => hp i (by omega)
      have h1 : c [.fz (.list (nl o)), .fz (.list (nl now)), .ow (nl l), .fz (.int (p : Int))] = .ok false := by
        subst hc
        have : ¬ (p : Int) + 1 < (now.length : Int) := by omega
        simp [bVar, decide_eq_false this]
      refine ⟨l, p, ?_, hr ▸ hd⟩
      rw [sWhile_f h1, hr]
theorem g_shortest_ex {n : Nat} {o : List Nat} (h : Od n o) : ∃ d, g_shortest [.list (nl o)] = .lst (nl d) ∧ g_way_to [.list (nl o)] = .lst (nl d) ∧ Sd n o d := by
  obtain ⟨d, e, hd⟩ := g_way_to_ex h
  refine ⟨d, ?_, e, hd⟩
  unfold g_shortest f_shortest
  simp [runB_e, eVar, callL_eq (g_asked_order_eq n o h), callL_eq e]
end PM
end
section
set_option Elab.async false
set_option linter.all false
set_option maxRecDepth 100000
set_option autoImplicit false
set_option maxHeartbeats 1000000
/-! drawn orders, drawn shortest dances, who crosses -/
namespace PM
open PySem L2 VL PF
theorem nl_eraseIdx : ∀ (l : List Nat) (k : Nat), (nl l).eraseIdx k = nl (l.eraseIdx k)
  | [], k => by simp
  | a :: l, 0 => rfl
  | a :: l, k + 1 => by
    show PyData.int (a : Int) :: (nl l).eraseIdx k = _
    rw [nl_eraseIdx l k]
    rfl
theorem eraseIdx_perm : ∀ (l : List Nat) (k : Nat), k < l.length → (l[k]?.getD 0 :: l.eraseIdx k).Perm l
  | [], k, h => by simp at h
  | a :: l, 0, _ => .refl _
  | a :: l, k + 1, h => by
    have := eraseIdx_perm l k (by simp at h; omega)
    simp only [List.getElem?_cons_succ, List.eraseIdx_cons_succ]
    exact (List.Perm.swap _ _ _).trans (this.cons a)
theorem nn_pos {n : Nat} (h : Nn n) : 0 < n := h.lo
theorem g_law_order_ex (c : Int) {n : Nat} (hn : Nn n) : ∃ o, g_law_order [.int c, .int (n : Int)] = .lst (nl o) ∧ Od n o := by
  have h7 := hn.hi
  have h1 := hn.lo
  obtain ⟨w, hw, ew⟩ := g_drawn c 3 9 (by omega)
  have ew : g_law_draw [.int c, .int 3, .int 9] = _ := ew
  have er := lcL_map (.nm 6) (eVar 6) [.fz (.int c), .fz (.int (n : Int)), .no, .no, .no, .no, .no] iN iN (List.range n) (fun a _ => ⟨_, rfl, rfl⟩)
  have er : lcL (.nm 6) tYesF (eVar 6) (nl (List.range n)) [.fz (.int c), .fz (.int (n : Int)), .no, .no, .no, .no, .no] = .ok (nl (List.range n)) := er
  by_cases hw0 : w = 0
  · subst hw0
    refine ⟨List.range n, ?_, od_range hn⟩
    unfold g_law_order f_law_order
    simp [runB_e, bVar, eVar, uVar, rgA1_nat n (by omega), small_t (show n ≤ 100000 by omega), er, callV_eq (n := 3) ew, sRetO]
  by_cases hw1 : w = 1
  · subst hw1
    refine ⟨(List.range n).reverse, ?_, ⟨(List.reverse_perm _), hn⟩⟩
    unfold g_law_order f_law_order
    simp [runB_e, bVar, eVar, uVar, rgA1_nat n (by omega), small_t (show n ≤ 100000 by omega), er, callV_eq (n := 3) ew, sRetO, nl_rev]
  have hwi0 : ¬ (w : Int) = 0 := by omega
  have hwi1 : ¬ (w : Int) = 1 := by omega
  by_cases hw2 : w = 2 ∧ 1 < n
  · obtain ⟨hw2, hn1⟩ := hw2
    subst hw2
    obtain ⟨s, hs, es⟩ := g_drawn c 4 (n - 1) (by omega)
    rw [show ((n - 1 : Nat) : Int) = (n : Int) - 1 by omega] at es
    refine ⟨swp (List.range n) s, ?_, od_swp (od_range hn) s⟩
    have hl : (List.range n).length = n := List.length_range
    rw [swp_cut _ _ (by rw [hl]; omega)]
    have hni : (1 : Int) < (n : Int) := by omega
    have c1 := catD_l (xs := (nl (List.range n)).take s) (ys := [.int (((List.range n)[s + 1]?.getD 0 : Nat) : Int), .int (((List.range n)[s]?.getD 0 : Nat) : Int)]) (by simp; omega)
    have c2 := catD_l (xs := (nl (List.range n)).take s ++ [.int (((List.range n)[s + 1]?.getD 0 : Nat) : Int), .int (((List.range n)[s]?.getD 0 : Nat) : Int)]) (ys := (nl (List.range n)).drop (s + 2)) (by simp; omega)
    unfold g_law_order f_law_order
    simp only [runB_e, sSeq_e, sAsgF_e, sAsgE_e, sIf_e, lcF_e, b1_e, b2_e, b3_e, bVar, eVar, uVar, aCons_e, aNil_e, eC_e, oNone_e, List.map_cons, List.map_nil, List.length_cons, List.length_nil, List.cons_append, List.nil_append, Nat.reduceAdd, Nat.reduceSub, List.replicate_succ, List.replicate_zero, List.getElem?_cons_succ, List.getElem?_cons_zero, List.set_cons_succ, List.set_cons_zero, killS_cons, killS_nil, bind_ok, ofO_some, thn_ok, rgA1_nat n (show n ≤ 100000 by omega), nl_len, List.length_range, small_t (show n ≤ 100000 by omega), if_true, er, callV_eq (n := 3) ew rfl, callV_eq (n := 3) es rfl, eqD_int, asB_e, decide_eq_false hwi0, decide_eq_false hwi1, sNil_e, tAnd2_e, gtI_i, subI_i, addI_i, decide_eq_true hni, idxD_l, asO_e, cutD_l, okL_e, cutG_to, cutG_fr2, atI_nl (List.range n) s (by rw [hl]; omega), atI_nl1 (List.range n) s (by rw [hl]; omega), sRetF_e]
    generalize List.range n = rr at *
    simp [c1, c2, nl_app, nl_take, nl_drop]
  · have hc2 : ∀ (t : Ev → Res Bool) (e : Ev), t e = .ok (decide (1 < n)) → tAnd2 (b1 (b2 (bVar 3) (eC (.int 2)) fun a b => ofO (eqD a b)) asB) t ([.fz (.int c), .fz (.int (n : Int)), .ow (nl (List.range n)), .fz (.int (w : Int)), .no, .no, .no]) = .ok false → True := fun _ _ _ _ => trivial
    suffices hw : ∀ (cc : Ev → Res Bool) (f : SS), cc = (b1 (b2 (bVar 2) (b1 (b1 aNil capL) okL) fun a b => ofO (neD a b)) asB) →
        f = (sAppPop 4 2 (b1 (aCons (eVar 0) (aCons (b2 (eC (.int 5)) (b1 (aCons (bVar 2) aNil) fun ds => ofO (lenD ds)) fun a b => ofO (addI a b)) (aCons (b1 (aCons (bVar 2) aNil) fun ds => ofO (lenD ds)) aNil))) (callV g_law_draw 3))) →
        ∀ (m : Nat) (left found : List Nat) (x1 x3 : Slot), (found ++ left).Perm (List.range n) → left.length < m →
        ∃ o, sWhile cc [] f m [.fz (.int c), x1, .ow (nl left), x3, .ow (nl found), .no, .no] = .nx [.fz (.int c), x1, .ow [], x3, .ow (nl o), .no, .no] ∧ o.Perm (List.range n) by
      obtain ⟨o, e, ho⟩ := hw _ _ rfl rfl 1000 (List.range n) [] (.fz (.int (n : Int))) (.fz (.int (w : Int))) (.refl _) (by rw [List.length_range]; omega)
      refine ⟨o, ?_, ho, hn⟩
      unfold g_law_order f_law_order
      have hand : (if w = 2 then decide ((1 : Int) < (n : Int)) else false) = false := by
        by_cases h2 : w = 2
        · rw [if_pos h2, decide_eq_false]; omega
        · rw [if_neg h2]
      by_cases h2 : w = 2
      · have hn1 : ¬ (1 : Int) < (n : Int) := by omega
        have hn1' : ¬ 1 < n := by omega
        subst h2
        simp [runB_e, bVar, eVar, uVar, rgA1_nat n (by omega), small_t (show n ≤ 100000 by omega), er, callV_eq (n := 3) ew, hn1, hn1', decide_eq_false hn1']
        rw [nl_nil, show ((2 : Nat) : Int) = 2 from rfl] at e
        rw [e]
        simp [sRetO]
      · have h2i : ¬ (w : Int) = 2 := by omega
        simp [runB_e, bVar, eVar, uVar, rgA1_nat n (by omega), small_t (show n ≤ 100000 by omega), er, callV_eq (n := 3) ew, hw0, hw1, h2, h2i, hwi0, hwi1, decide_eq_false hw0]
        rw [nl_nil] at e
        rw [e]
        simp [sRetO]
    intro cc f hcc hf m
    induction m with
    | zero => intro _ _ _ _ _ h; omega
    | succ m ih =>
      intro left found x1 x3 hp hm
      have hlen := hp.length_eq
      rw [List.length_append, List.length_range] at hlen
      cases hL : left with
      | nil =>
        rw [hL, List.append_nil] at hp
        refine ⟨found, ?_, hp⟩
        rw [sWhile_f]
        · rfl
        · subst hcc
          rfl
      | cons a r =>
        rw [← hL]
        have hpos : 0 < left.length := by rw [hL]; simp
        obtain ⟨k, hk, ek⟩ := g_drawn c (5 + (left.length : Int)) left.length hpos
        have hper : ((found ++ [left[k]?.getD 0]) ++ left.eraseIdx k).Perm (List.range n) := by
          refine List.Perm.trans ?_ hp
          rw [List.append_assoc]
          refine List.Perm.append_left _ ?_
          exact eraseIdx_perm left k hk
        obtain ⟨o, e, ho⟩ := ih (left.eraseIdx k) (found ++ [left[k]?.getD 0]) x1 x3 hper (by rw [List.length_eraseIdx_of_lt hk]; omega)
        refine ⟨o, ?_, ho⟩
        rw [sWhile_t (e2 := [.fz (.int c), x1, .ow (nl (left.eraseIdx k)), x3, .ow (nl (found ++ [left[k]?.getD 0])), .no, .no])]
        · exact e
        · subst hcc
          have : ¬ left = [] := by rw [hL]; simp
          simp [bVar, this]
        · subst hf
          have hc : (decide (0 ≤ (k : Int) ∧ (k : Int) < (left.length : Int) ∧ (k : Int) < 100000)) = true := decide_eq_true (by omega)
          have hget := nl_get left k hk
          simp only [sAppPop, onOw, List.getElem?_cons_succ, List.getElem?_cons_zero, b1_e, b2_e, aCons_e, aNil_e, eVar, bVar, eC_e, bind_ok, lenD_l, nl_len, ofO_some, addI_i, callV_eq (n := 3) ek rfl, thn_ok, hc, Bool.true_and, small_t (show found.length + 1 ≤ 100000 by omega), Int.toNat_natCast, hget]
          simp [nl_eraseIdx, nl_app]
/-- a shortest dance, drawn -/
theorem prs_nil {n : Nat} {o : List Nat} (h : Od n o) : prs o = [] ↔ invs o = 0 := by
  rw [← List.length_eq_zero_iff, ← (inv_prs h).length_eq]
  rfl
theorem g_law_shortest_ex {n : Nat} {o : List Nat} (h : Od n o) (c : Int) : ∃ d, g_law_shortest [.list (nl o), .int c] = .lst (nl d) ∧ Sd n o d := by
  have h7 := h.nn.hi
  have h1 := h.nn.lo
  suffices hw : ∀ (cc : Ev → Res Bool) (f : SS), cc = (b1 (b2 (b1 (b1 (aCons (eVar 2) aNil) (callL g_law_pairs 1)) okL) (b1 (b1 aNil capL) okL) fun a b => ofO (neD a b)) asB) →
      f = (sSeq (sAsgE 4 (b1 (lcF (.nm 5) [5] (b1 (aCons (b2 (b1 (aCons (bVar 2) aNil) fun ds => ofO (lenD ds)) (eC (.int 1)) fun a b => ofO (subI a b)) aNil) fun ds => ofO (rgA1 ds)) (b1 (b2 (b2 (uVar 2) (bVar 5) fun a b => ofO (idxD a b)) (b2 (uVar 2) (b2 (bVar 5) (eC (.int 1)) fun a b => ofO (addI a b)) fun a b => ofO (idxD a b)) fun a b => ofO (gtI a b)) asB) (eVar 5)) okL))
  (sSeq (sAsgE 5 (b2 (uVar 4) (b1 (aCons (eVar 1) (aCons (b1 (aCons (bVar 3) aNil) fun ds => ofO (lenD ds)) (aCons (b1 (aCons (bVar 4) aNil) fun ds => ofO (lenD ds)) aNil))) (callV g_law_draw 3)) fun a b => ofO (idxD a b)))
  (sSeq (sApp 3 (eVar 5))
  (sAsgE 2 (b1 (b1 (aCons (eVar 2) (aCons (b1 (b1 (aCons (eVar 5) aNil) capL) okL) aNil)) (callL g_law_danced 2)) okL))))) →
      ∀ (m : Nat) (now l : List Nat) (x0 : Slot), Od n now → Dw n o l now → invs now < m →
      ∃ l', sWhile cc [4, 5] f m [x0, .fz (.int c), .fz (.list (nl now)), .ow (nl l), .no, .no] = .nx [x0, .fz (.int c), .fz (.list (nl (List.range n))), .ow (nl l'), .no, .no] ∧ Dw n o l' (List.range n) by
    obtain ⟨l, e, hd⟩ := hw _ _ rfl rfl 1000 o [] (.fz (.list (nl o))) h .nil (by have := invs_21 h; omega)
    refine ⟨l.reverse, ?_, hd.sd h⟩
    unfold g_law_shortest f_law_shortest
    simp [runB_e, uVar]
    rw [nl_nil] at e
    rw [e]
    simp [nl_rev]
  intro cc f hcc hf m
  induction m with
  | zero => intro _ _ _ _ _ h; omega
  | succ m ih =>
    intro now l x0 hn hd hm
    have hlen := hn.len
    have hll := (hd.all h).2.2.1
    have h21 := invs_21 h
    by_cases h0 : invs now = 0
    · have hr := range_of hn h0
      refine ⟨l, ?_, hr ▸ hd⟩
      rw [sWhile_f, hr]
      subst hcc
      have : prs now = [] := (prs_nil hn).mpr h0
      simp [eVar, callL_eq (n := 1) (g_law_pairs_eq hn), this]
    · obtain ⟨k0, hk0, hk1⟩ := desc_ex now h0
      have hst : ∃ steps : List Nat, steps = (List.range (n - 1)).filter (fun k => decide (now[k + 1]?.getD 0 < now[k]?.getD 0)) := ⟨_, rfl⟩
      obtain ⟨steps, hst⟩ := hst
      have hsl : steps.length ≤ 7 := by rw [hst]; have := List.length_filter_le (fun k => decide (now[k + 1]?.getD 0 < now[k]?.getD 0)) (List.range (n - 1)); rw [List.length_range] at this; omega
      have hpos : 0 < steps.length := by
        refine List.length_pos_iff.mpr fun e => ?_
        have : k0 ∈ steps := by rw [hst, List.mem_filter, List.mem_range]; exact ⟨by omega, decide_eq_true hk1⟩
        rw [e] at this
        cases this
      obtain ⟨i, hi, ei⟩ := g_drawn c (l.length : Int) steps.length hpos
      have hmem : steps[i]?.getD 0 ∈ steps := by rw [List.getElem?_eq_getElem hi]; exact List.getElem_mem hi
      obtain ⟨k, hk⟩ : ∃ k, k = steps[i]?.getD 0 := ⟨_, rfl⟩
      rw [← hk] at hmem
      rw [hst, List.mem_filter, List.mem_range] at hmem
      have hkd := of_decide_eq_true hmem.2
      have hsw := swp_down now k (by omega) hkd
      obtain ⟨l', e, hd'⟩ := ih (swp now k) (l ++ [k]) x0 (od_swp hn k) (hd.snoc (by omega) hkd) (by omega)
      refine ⟨l', ?_, hd'⟩
      rw [sWhile_t (e2 := [x0, .fz (.int c), .fz (.list (nl (swp now k))), .ow (nl (l ++ [k])), .no, .no])]
      · exact e
      · subst hcc
        have : ¬ prs now = [] := fun e => h0 ((prs_nil hn).mp e)
        simp [eVar, callL_eq (n := 1) (g_law_pairs_eq hn), this]
      · subst hf
        have elc : ∀ x3 : Slot, lcL (.nm 5) (b1 (b2 (b2 (uVar 2) (bVar 5) fun a b => ofO (idxD a b)) (b2 (uVar 2) (b2 (bVar 5) (eC (.int 1)) fun a b => ofO (addI a b)) fun a b => ofO (idxD a b)) fun a b => ofO (gtI a b)) asB) (eVar 5) (nl (List.range (n - 1))) [x0, .fz (.int c), .fz (.list (nl now)), x3, .no, .no] = .ok (nl steps) := fun x3 => by
          rw [show nl (List.range (n - 1)) = (List.range (n - 1)).map iN from rfl, lcL_eq (.nm 5) _ _ _ iN (fun k => decide (now[k + 1]?.getD 0 < now[k]?.getD 0)) iN, hst]
          · rfl
          · intro j hj
            have := List.mem_range.mp hj
            refine ⟨_, rfl, ?_, fun _ => rfl⟩
            simp [uVar, bVar, atI_nl now j (by omega), atI_nl1 now j (by omega)]
        have er : rgA1 [.int ((now.length : Int) - 1)] = some (nl (List.range (n - 1))) := by
          rw [show (now.length : Int) - 1 = ((n - 1 : Nat) : Int) by omega, rgA1_nat _ (by omega)]
        have ed := g_law_danced_eq now [k] (fun s hs => by rw [List.mem_singleton.mp hs]; omega) (by omega)
        have ed : g_law_danced [.list (nl now), .list [.int (k : Int)]] = .lst (nl (swp now k)) := ed
        simp [uVar, bVar, eVar, er, small_t (show n - 1 ≤ 100000 by omega), elc, callV_eq (n := 3) ei, atI_nl steps i hi, ← hk, sApp, onOw, small_t (show l.length + 1 ≤ 100000 by omega), callL_eq (n := 2) ed, nl_app]
end PM
end
section
set_option Elab.async false
set_option linter.all false
set_option maxRecDepth 100000
set_option autoImplicit false
set_option maxHeartbeats 1000000
/-! who crosses at each step; which dances are shortest -/
namespace PM
open PySem L2 VL PF
theorem callVB_b {g : List PyData → RF} {n : Nat} {ds : List PyData} {b : Bool} (h : g ds = .val (.bool b)) (l : ds.length = n) : callVB g n ds = .ok (.bool b) := by
  unfold callVB
  rw [if_pos l, h]
  rfl
theorem callVB_i {g : List PyData → RF} {n : Nat} {ds : List PyData} {b : Int} (h : g ds = .val (.int b)) (l : ds.length = n) : callVB g n ds = .ok (.int b) := by
  unfold callVB
  rw [if_pos l, h]
  rfl
theorem allD_t {α : Type} (p : α → Bool) (l : List α) : allD [.list (l.map fun a => .bool (p a))] = some (.bool (l.all p)) := by
  show (boolsOf (l.map fun a => PyData.bool (p a))).map (fun bs => PyData.bool (bs.all id)) = _
  have : ∀ l : List α, boolsOf (l.map fun a => PyData.bool (p a)) = some (l.map p) := by
    intro l
    induction l with
    | nil => rfl
    | cons a l ih =>
      show (boolsOf (l.map fun a => PyData.bool (p a))).map (p a :: ·) = _
      rw [ih]
      rfl
  rw [this]
  show some (PyData.bool ((l.map p).all id)) = _
  rw [List.all_map]
  rfl
theorem g_law_numbers_eq (l : List Nat) (m : Int) (h : ∀ x ∈ l, (x : Int) < m) (hl : l.length ≤ 100000) : g_law_numbers [.list (nl l), .int m] = .val (.bool true) := by
  unfold g_law_numbers f_law_numbers
  simp [runB_e, bVar, uVar, small_t hl]
  rw [show nl l = l.map iN from rfl, lcL_map (.nm 2) _ _ iN (fun a => .bool (decide ((a : Int) < m))) l]
  · simp [allD_t]
    exact h
  · intro a ha
    refine ⟨_, rfl, ?_⟩
    simp [bVar]
/-- who crosses at each step, the lesser told first -/
def crs : List Nat → List Nat → List (Nat × Nat)
  | _, [] => []
  | o, k :: d => (min (o[k]?.getD 0) (o[k + 1]?.getD 0), max (o[k]?.getD 0) (o[k + 1]?.getD 0)) :: crs (swp o k) d
theorem crs_len : ∀ (d o : List Nat), (crs o d).length = d.length
  | [], _ => rfl
  | k :: d, o => by rw [crs, List.length_cons, crs_len d, List.length_cons]
theorem minD2_n (a b : Nat) : minD2 [.int (a : Int), .int (b : Int)] = some (.int ((min a b : Nat) : Int)) := by
  show some (PyData.int (if (b : Int) < (a : Int) then (b : Int) else (a : Int))) = _
  congr 2
  split <;> omega
theorem maxD2_n (a b : Nat) : maxD2 [.int (a : Int), .int (b : Int)] = some (.int ((max a b : Nat) : Int)) := by
  show some (PyData.int (if (b : Int) > (a : Int) then (b : Int) else (a : Int))) = _
  congr 2
  split <;> omega
theorem g_crossings_eq {n : Nat} {d : List Nat} (hn : Nn n) (hd : Dn n d) : g_crossings [.int (n : Int), .list (nl d)] = .lst (pl (crs (List.range n) d)) := by
  have h7 := hn.hi
  have hl := hd.len
  unfold g_crossings f_crossings
  simp [runB_e, eVar, callL_eq (n := 1) (g_at_first_eq n (by omega))]
  generalize hf : (sSeq (sApp 3 (b1 (aCons (b1 (aCons (b2 (uVar 2) (bVar 4) fun a b => ofO (idxD a b)) (aCons (b2 (uVar 2) (b2 (bVar 4) (eC (.int 1)) fun a b => ofO (addI a b)) fun a b => ofO (idxD a b)) aNil)) fun ds => ofO (minD2 ds)) (aCons (b1 (aCons (b2 (uVar 2) (bVar 4) fun a b => ofO (idxD a b)) (aCons (b2 (uVar 2) (b2 (bVar 4) (eC (.int 1)) fun a b => ofO (addI a b)) fun a b => ofO (idxD a b)) aNil)) fun ds => ofO (maxD2 ds)) aNil)) tupL))
  (sAsgE 2 (b1 (b1 (aCons (eVar 2) (aCons (eVar 4) aNil)) (callL g_stepped 2)) okL))) = f
  suffices h : ∀ (d o : List Nat) (acc : List (Nat × Nat)) (a b : Slot), (∀ s ∈ d, s + 1 < o.length) → o.length ≤ 7 → acc.length + d.length ≤ 100 → ∃ o', forL (.nm 4) [4] f (nl d) [a, b, .fz (.list (nl o)), .ow (pl acc), .no] = .nx [a, b, .fz (.list (nl o')), .ow (pl (acc ++ crs o d)), .no] by
    obtain ⟨o', e⟩ := h d (List.range n) [] (.fz (.int (n : Int))) (.fz (.list (nl d))) (fun s hs => by rw [List.length_range]; exact hd.st s hs) (by rw [List.length_range]; omega) (by simp; omega)
    rw [pl_nil] at e
    rw [e]
    simp [sRetO]
  intro d
  induction d with
  | nil => intro o acc a b _ _ _; exact ⟨o, by simp [crs]⟩
  | cons k d ih =>
    intro o acc a b hd hl ha
    have hk := hd k List.mem_cons_self
    obtain ⟨o', e⟩ := ih (swp o k) (acc ++ [(min (o[k]?.getD 0) (o[k + 1]?.getD 0), max (o[k]?.getD 0) (o[k + 1]?.getD 0))]) a b (fun s hs => by rw [swp_len]; exact hd s (List.mem_cons_of_mem _ hs)) (by rw [swp_len]; exact hl) (by simp at ha ⊢; omega)
    refine ⟨o', ?_⟩
    rw [List.append_assoc] at e
    rw [nl_cons, forL_step (e1 := [a, b, .fz (.list (nl o)), .ow (pl acc), .fz (.int (k : Int))]) (e2 := [a, b, .fz (.list (nl (swp o k))), .ow (pl (acc ++ [(min (o[k]?.getD 0) (o[k + 1]?.getD 0), max (o[k]?.getD 0) (o[k + 1]?.getD 0))])), .no]) rfl]
    · exact e
    · subst hf
      have hs : small (acc.length + 1) = true := small_t (by simp at ha; omega)
      simp [sApp, onOw, uVar, bVar, eVar, atI_nl o k (by omega), atI_nl1 o k hk, minD2_n, maxD2_n, hs, callL_eq (n := 2) (g_stepped_eq o k hk (by omega)), pl_app]
theorem toI_inj {p q : Nat × Nat} (h : toI p = toI q) : p = q := by
  have h1 := congrArg Prod.fst h
  have h2 := congrArg Prod.snd h
  simp only [toI] at h1 h2
  exact Prod.ext (by omega) (by omega)
theorem nodup_toI (l : List (Nat × Nat)) : (l.map toI).Nodup ↔ l.Nodup := by
  rw [List.Nodup, List.pairwise_map]
  exact ⟨fun h => h.imp fun h e => h (congrArg toI e), fun h => h.imp fun h e => h (toI_inj e)⟩
theorem crs_lt : ∀ (d o : List Nat) (n : Nat), (∀ x ∈ o, x < n) → 0 < n → ∀ p ∈ crs o d, p.1 < n ∧ p.2 < n
  | [], o, n, _, _, p, hp => by cases hp
  | k :: d, o, n, ho, hn, p, hp => by
    have hg : ∀ j, o[j]?.getD 0 < n := fun j => by
      by_cases hj : j < o.length
      · rw [List.getElem?_eq_getElem hj]; exact ho _ (List.getElem_mem hj)
      · rw [List.getElem?_eq_none (by omega)]; exact hn
    rw [crs] at hp
    rcases List.mem_cons.mp hp with rfl | hp
    · have h1 := hg k
      have h2 := hg (k + 1)
      simp only
      omega
    · exact crs_lt d (swp o k) n (fun x hx => ho x ((swp_perm o k).mem_iff.mp hx)) hn p hp
theorem lenSetD_pl (l : List (Nat × Nat)) (h : ∀ p ∈ l, p.1 < 64 ∧ p.2 < 64) (len : l.length < 64) : lenSetD (.list (pl l)) = some (.int ((nubP (l.map toI)).length : Int)) := by
  unfold lenSetD
  rw [itemsD_l]
  dsimp only
  rw [if_pos (decide_eq_true (by rw [pl_len]; exact len)), pairsOf_pl l h]
  rfl
theorem g_is_shortest_eq {n : Nat} {d : List Nat} (hn : Nn n) (hd : Dn n d) : g_is_shortest [.int (n : Int), .list (nl d)] = .val (.bool (decide (crs (List.range n) d).Nodup)) := by
  have h7 := hn.hi
  have h1 := hn.lo
  have hl := hd.len
  have hc := crs_len d (List.range n)
  have hb := crs_lt d (List.range n) n (fun x hx => List.mem_range.mp hx) (by omega)
  have hs := lenSetD_pl (crs (List.range n) d) (fun p hp => by have := hb p hp; omega) (by omega)
  unfold g_is_shortest f_is_shortest
  simp [runB_e, eVar, uVar, bVar, callL_eq (n := 2) (g_asked_dance_eq n d hn hd), callL_eq (n := 2) (g_crossings_eq hn hd), hs]
  rw [← nodup_toI, ← nubP_iff, List.length_map]
  omega
/-- a list of two, for each pair -/
abbrev lN (p : Nat × Nat) : PyData := .list [.int (p.1 : Int), .int (p.2 : Int)]
def ll (l : List (Nat × Nat)) : List PyData := l.map lN
@[simp] theorem ll_len (l : List (Nat × Nat)) : (ll l).length = l.length := List.length_map _
theorem canLayAll_ll : ∀ a : List (Nat × Nat), PyData.canLayAll0 (ll a) = true
  | [] => rfl
  | x :: a => by
    show (true && PyData.canLayAll0 (ll a)) = true
    rw [canLayAll_ll a]; rfl
theorem depthAll_ll : ∀ a : List (Nat × Nat), PyData.depthAll (ll a) ≤ 1
  | [] => Nat.zero_le _
  | x :: a => by
    have := depthAll_ll a
    show max 1 (PyData.depthAll (ll a)) ≤ 1
    omega
theorem shaped_ll (a : List (Nat × Nat)) : SeqAt.shaped (.list (ll a)) = true := by
  have h := depthAll_ll a
  unfold SeqAt.shaped
  show (PyData.canLayAll0 (ll a) && decide (PyData.depthAll (ll a) + 1 ≤ 64)) = true
  rw [canLayAll_ll, decide_eq_true (by omega)]; rfl
theorem eqv_lN (p q : Nat × Nat) : PyData.eqv (lN p) (lN q) = decide (p = q) := eqv_pN p q
theorem inD_ll (p : Nat × Nat) (l : List (Nat × Nat)) : inD false (.list [.int (p.1 : Int), .int (p.2 : Int)]) (.list (ll l)) = some (.bool (decide (p ∈ l))) := by
  unfold inD
  dsimp only
  rw [show SeqAt.shaped (.list [.int (p.1 : Int), .int (p.2 : Int)]) = true from rfl, shaped_ll]
  simp only [Bool.and_self, if_true, Bool.false_eq_true, if_false]
  congr 2
  induction l with
  | nil => rfl
  | cons q l ih =>
    show (PyData.eqv (lN q) (lN p) || (ll l).any fun z => PyData.eqv z (lN p)) = _
    rw [eqv_lN]
    have ih : ((ll l).any fun z => PyData.eqv z (lN p)) = decide (p ∈ l) := ih
    rw [ih, ← Bool.decide_or]
    congr 1
    rw [List.mem_cons]
    exact propext ⟨fun h => h.imp Eq.symm id, fun h => h.imp Eq.symm id⟩
theorem take2 (o : List Nat) (k : Nat) (h : k + 1 < o.length) : (o.drop k).take 2 = [o[k]?.getD 0, o[k + 1]?.getD 0] := by
  rw [List.getElem?_eq_getElem (by omega), List.getElem?_eq_getElem h, List.drop_eq_getElem_cons (by omega), List.drop_eq_getElem_cons (by omega)]
  rfl
theorem cutG_2 {α : Type} (xs : List α) (k : Nat) : cutG xs (some (k : Int)) (some ((k : Int) + 2)) = (xs.drop k).take 2 := by
  rw [show ((k : Int) + 2) = ((k + 2 : Nat) : Int) by omega, cutG_mid]
  congr 1
  omega
theorem sortD_2 (a b : Nat) : sortD (.list [.int (a : Int), .int (b : Int)]) = some [.int ((min a b : Nat) : Int), .int ((max a b : Nat) : Int)] := by
  show some ((sortK id [(a : Int), (b : Int)]).map PyData.int) = _
  rw [show sortK id [(a : Int), (b : Int)] = insK id (a : Int) [(b : Int)] from rfl, insK]
  simp only [id]
  by_cases h : (a : Int) ≤ (b : Int)
  · rw [if_pos h, show min a b = a by omega, show max a b = b by omega]; rfl
  · rw [if_neg h, show min a b = b by omega, show max a b = a by omega]; rfl
theorem g_law_crosses_once_eq {n : Nat} {d : List Nat} (hn : Nn n) (hd : Dn n d) : g_law_crosses_once [.int (n : Int), .list (nl d)] = .val (.bool (decide (crs (List.range n) d).Nodup)) := by
  have h7 := hn.hi
  have hl := hd.len
  unfold g_law_crosses_once f_law_crosses_once
  simp [runB_e, eVar, callL_eq (n := 1) (g_law_first_eq n (by omega))]
  generalize hf : (sSeq (sAsgE 5 (b1 (b1 (b1 (b3 (uVar 2) (b1 (bVar 4) asO) (b1 (b2 (bVar 4) (eC (.int 2)) fun a b => ofO (addI a b)) asO) fun d lo hi => ofO (cutD d lo hi)) okL) fun d => ofO (sortD d)) okL))
  (sSeq (sIf (b1 (b2 (bVar 5) (bVar 3) fun a b => ofO ((inD false) a b)) asB) (sRetE (eC (.bool false))) sNil)
  (sSeq (sApp 3 (eVar 5))
  (sAsgE 2 (b1 (b1 (aCons (eVar 2) (aCons (b1 (b1 (aCons (eVar 4) aNil) capL) okL) aNil)) (callL g_law_danced 2)) okL))))) = f
  suffices h : ∀ (d o : List Nat) (acc : List (Nat × Nat)) (a b : Slot), (∀ s ∈ d, s + 1 < o.length) → o.length ≤ 7 → acc.length + d.length ≤ 100 → acc.Nodup →
      if (acc ++ crs o d).Nodup then ∃ x2 x3, forL (.nm 4) [4, 5] f (nl d) [a, b, .fz (.list (nl o)), .ow (ll acc), .no, .no] = .nx [a, b, x2, x3, .no, .no] else forL (.nm 4) [4, 5] f (nl d) [a, b, .fz (.list (nl o)), .ow (ll acc), .no, .no] = .rt (.bool false) by
    have e := h d (List.range n) [] (.fz (.int (n : Int))) (.fz (.list (nl d))) (fun s hs => by rw [List.length_range]; exact hd.st s hs) (by rw [List.length_range]; omega) (by simp; omega) List.nodup_nil
    rw [List.nil_append] at e
    by_cases hc : (crs (List.range n) d).Nodup
    · rw [if_pos hc] at e
      obtain ⟨x2, x3, e⟩ := e
      have e : forL _ _ _ _ [_, _, _, .ow [], _, _] = _ := e
      rw [e]
      simp [hc]
    · rw [if_neg hc] at e
      have e : forL _ _ _ _ [_, _, _, .ow [], _, _] = _ := e
      rw [e]
      simp [hc]
  intro d
  induction d with
  | nil =>
    intro o acc a b _ _ _ hnd
    rw [show crs o [] = [] from rfl, List.append_nil, if_pos hnd]
    exact ⟨_, _, rfl⟩
  | cons k d ih =>
    intro o acc a b hd hl ha hnd
    have hk := hd k List.mem_cons_self
    have hs : small (acc.length + 1) = true := small_t (by simp at ha; omega)
    have ed := g_law_danced_eq o [k] (fun s hs => by rw [List.mem_singleton.mp hs]; omega) (by omega)
    have ed : g_law_danced [.list (nl o), .list [.int (k : Int)]] = .lst (nl (swp o k)) := ed
    obtain ⟨p, hp⟩ : ∃ p : Nat × Nat, p = (min (o[k]?.getD 0) (o[k + 1]?.getD 0), max (o[k]?.getD 0) (o[k + 1]?.getD 0)) := ⟨_, rfl⟩
    rw [show crs o (k :: d) = p :: crs (swp o k) d by rw [crs, hp]]
    have hcut : cutG (nl o) (some (k : Int)) (some ((k : Int) + 2)) = [.int ((o[k]?.getD 0 : Nat) : Int), .int ((o[k + 1]?.getD 0 : Nat) : Int)] := by
      rw [cutG_2, ← nl_drop, ← nl_take, take2 o k hk]
      rfl
    have hin := inD_ll p acc
    have hp1 : p.1 = min (o[k]?.getD 0) (o[k + 1]?.getD 0) := by rw [hp]
    have hp2 : p.2 = max (o[k]?.getD 0) (o[k + 1]?.getD 0) := by rw [hp]
    by_cases hm : p ∈ acc
    · have hnn : ¬ (acc ++ p :: crs (swp o k) d).Nodup := fun h => by
        rw [List.nodup_append] at h
        exact h.2.2 p hm p List.mem_cons_self rfl
      rw [if_neg hnn, nl_cons, forL_cons]
      subst hf
      simp only [tgSet_nm, List.set_cons_succ, List.set_cons_zero, sSeq_e, sAsgE_e, b1_e, b2_e, b3_e, uVar, bVar, eVar, List.getElem?_cons_succ, List.getElem?_cons_zero, bind_ok, asO_e, eC_e, addI_i, ofO_some, cutD_l, hcut, okL_e, sortD_2, ← hp1, ← hp2, thn_ok, sIf_e, hin, decide_eq_true hm, asB_e, sRetE_e]
    · have hnd' : (acc ++ [p]).Nodup := by
        rw [List.nodup_append]
        exact ⟨hnd, List.nodup_cons.mpr ⟨by simp, List.nodup_nil⟩, fun x hx y hy e => hm (by rw [List.mem_singleton.mp hy] at e; exact e ▸ hx)⟩
      have ih := ih (swp o k) (acc ++ [p]) a b (fun s hs => by rw [swp_len]; exact hd s (List.mem_cons_of_mem _ hs)) (by rw [swp_len]; exact hl) (by simp at ha ⊢; omega) hnd'
      rw [List.append_assoc, List.singleton_append] at ih
      rw [nl_cons, forL_step (e1 := [a, b, .fz (.list (nl o)), .ow (ll acc), .fz (.int (k : Int)), .no]) (e2 := [a, b, .fz (.list (nl (swp o k))), .ow (ll (acc ++ [p])), .no, .no]) rfl]
      · exact ih
      · subst hf
        simp only [sSeq_e, sAsgE_e, b1_e, b2_e, b3_e, uVar, bVar, eVar, List.getElem?_cons_succ, List.getElem?_cons_zero, List.set_cons_succ, List.set_cons_zero, bind_ok, asO_e, eC_e, addI_i, ofO_some, cutD_l, hcut, okL_e, sortD_2, ← hp1, ← hp2, thn_ok, sIf_e, hin, decide_eq_false hm, asB_e, sNil_e, sApp, onOw, ll_len, hs, if_true, aCons_e, aNil_e]
        simp [callL_eq (n := 2) ed, ll]
end PM
end
section
set_option Elab.async false
set_option linter.all false
set_option maxRecDepth 100000
set_option autoImplicit false
set_option maxHeartbeats 1000000
/-! orders turned inside out; the last order -/
namespace PM
open PySem L2 VL PF
theorem swp_map (f : Nat → Nat) : ∀ (o : List Nat) (k : Nat), swp (o.map f) k = (swp o k).map f
  | [], k => rfl
  | [a], k => rfl
  | a :: b :: r, 0 => rfl
  | a :: b :: r, k + 1 => by
    show f a :: swp ((b :: r).map f) k = f a :: (swp (b :: r) k).map f
    rw [swp_map f (b :: r) k]
theorem dnc_map (f : Nat → Nat) (d : List Nat) : ∀ o : List Nat, dnc (o.map f) d = (dnc o d).map f := by
  induction d with
  | nil => intro o; rfl
  | cons k d ih =>
    intro o
    show dnc (swp (o.map f) k) d = (dnc (swp o k) d).map f
    rw [swp_map, ih]
theorem map_range (o : List Nat) : (List.range o.length).map (fun i => o[i]?.getD 0) = o := by
  apply List.ext_getElem
  · rw [List.length_map, List.length_range]
  · intro i h1 h2
    rw [List.getElem_map, List.getElem_range, List.getElem?_eq_getElem h2]
    rfl
theorem dnc_comp (o d : List Nat) : dnc o d = (dnc (List.range o.length) d).map (fun i => o[i]?.getD 0) := by
  rw [← dnc_map, map_range]
theorem dnc_back (d : List Nat) : ∀ o : List Nat, dnc (dnc o d) d.reverse = o := by
  induction d with
  | nil => intro o; rfl
  | cons k d ih =>
    intro o
    rw [List.reverse_cons, dnc_app]
    show swp (dnc (dnc (swp o k) d) d.reverse) k = o
    rw [ih, swp_swp]
def io (o : List Nat) : List Nat := (List.range o.length).map fun i => o.idxOf i
theorem io_len (o : List Nat) : (io o).length = o.length := by unfold io; rw [List.length_map, List.length_range]
theorem idx_get {n : Nat} {o : List Nat} (h : Od n o) {i : Nat} (hi : i < n) : o.idxOf (o[i]?.getD 0) = i := by
  have hl : i < o.length := by rw [h.len]; exact hi
  rw [List.getElem?_eq_getElem hl]
  exact h.nd.idxOf_getElem i hl
theorem get_idx {n : Nat} {o : List Nat} (h : Od n o) {i : Nat} (hi : i < n) : o[o.idxOf i]?.getD 0 = i := by
  have hm := h.lt.mpr hi
  have := List.idxOf_lt_length_iff.mpr hm
  rw [List.getElem?_eq_getElem this]
  exact List.getElem_idxOf this
theorem io_dnc {n : Nat} (hn : Nn n) (d : List Nat) : dnc (List.range n) d.reverse = io (dnc (List.range n) d) := by
  have he := od_dnc (od_range hn) d
  have hx := od_dnc (od_range hn) d.reverse
  have h := dnc_back d (List.range n)
  rw [dnc_comp, he.len] at h
  apply List.ext_getElem
  · rw [io_len, hx.len, he.len]
  · intro i h1 h2
    have hi : i < n := by rw [hx.len] at h1; exact h1
    have h3 : ((dnc (List.range n) d.reverse).map fun i => (dnc (List.range n) d)[i]?.getD 0)[i]'(by rw [List.length_map]; exact h1) = (List.range n)[i]'(by rw [List.length_range]; exact hi) := by
      congr 1
    rw [List.getElem_map, List.getElem_range] at h3
    have e4 : (io (dnc (List.range n) d))[i] = (dnc (List.range n) d).idxOf i := by simp [io]
    rw [e4]
    have hj : (dnc (List.range n) d.reverse)[i] < n := hx.lt.mp (List.getElem_mem h1)
    have := idx_get he hj
    rw [h3] at this
    exact this.symm
theorem sd_ex {n : Nat} {o : List Nat} (h : Od n o) : ∃ d, Sd n o d := by
  obtain ⟨d, _, hd⟩ := g_way_to_ex h
  exact ⟨d, hd⟩
theorem od_io {n : Nat} {o : List Nat} (h : Od n o) : Od n (io o) := by
  obtain ⟨d, hd⟩ := sd_ex h
  rw [← hd.mks, ← io_dnc h.nn]
  exact od_dnc (od_range h.nn) _
theorem od_rev {n : Nat} {o : List Nat} (h : Od n o) : Od n o.reverse := ⟨(List.reverse_perm o).trans h.pm, h.nn⟩
theorem swp_invs {n : Nat} {o : List Nat} (h : Od n o) {k : Nat} (hk : k + 1 < n) : invs (swp o k) ≤ invs o + 1 := by
  have hl := h.len
  by_cases hd : o[k + 1]?.getD 0 < o[k]?.getD 0
  · have := swp_down o k (by omega) hd; omega
  · have := at_ne h k hk
    have := swp_up o k (by omega) (by omega); omega
theorem dnc_invs {n : Nat} : ∀ (d o : List Nat), Od n o → (∀ s ∈ d, s + 1 < n) → invs (dnc o d) ≤ invs o + d.length
  | [], o, _, _ => Nat.le_refl _
  | k :: d, o, h, hd => by
    have h1 := swp_invs h (hd k List.mem_cons_self)
    have h2 := dnc_invs d (swp o k) (od_swp h k) fun s hs => hd s (List.mem_cons_of_mem _ hs)
    show invs (dnc (swp o k) d) ≤ _
    rw [List.length_cons]
    omega
theorem io_le {n : Nat} {o : List Nat} (h : Od n o) : invs (io o) ≤ invs o := by
  obtain ⟨d, hd⟩ := sd_ex h
  have := dnc_invs d.reverse (List.range n) (od_range h.nn) fun s hs => hd.st s (List.mem_reverse.mp hs)
  rw [io_dnc h.nn, hd.mks, invs_range, List.length_reverse, hd.len] at this
  omega
theorem io_io {n : Nat} {o : List Nat} (h : Od n o) : io (io o) = o := by
  obtain ⟨d, hd⟩ := sd_ex h
  have h1 := io_dnc h.nn d
  have h2 := io_dnc h.nn d.reverse
  rw [hd.mks] at h1
  rw [List.reverse_reverse, h1, hd.mks] at h2
  exact h2.symm
theorem io_invs {n : Nat} {o : List Nat} (h : Od n o) : invs (io o) = invs o := by
  have h1 := io_le h
  have h2 := io_le (od_io h)
  rw [io_io h] at h2
  omega
def gnt (a : Nat) (l : List Nat) : Nat := (l.filter (a < ·)).length
theorem invs_snoc : ∀ (l : List Nat) (a : Nat), invs (l ++ [a]) = invs l + gnt a l
  | [], a => rfl
  | b :: l, a => by
    rw [List.cons_append, invs_cons, invs_snoc l a, invs_cons]
    have e1 : cnt b (l ++ [a]) = cnt b l + (if a < b then 1 else 0) := by
      unfold cnt
      rw [List.filter_append, List.length_append, List.filter_cons]
      by_cases h : a < b <;> simp [h]
    have e2 : gnt a (b :: l) = (if a < b then 1 else 0) + gnt a l := by
      unfold gnt
      rw [List.filter_cons]
      by_cases h : a < b <;> simp [h] <;> omega
    omega
theorem cnt_gnt (a : Nat) : ∀ l : List Nat, a ∉ l → cnt a l + gnt a l = l.length
  | [], _ => rfl
  | b :: l, h => by
    have ih := cnt_gnt a l fun h2 => h (List.mem_cons_of_mem _ h2)
    have hb : a ≠ b := fun e => h (e ▸ List.mem_cons_self)
    have e2 : gnt a (b :: l) = (if a < b then 1 else 0) + gnt a l := by
      unfold gnt
      rw [List.filter_cons]
      by_cases h : a < b <;> simp [h] <;> omega
    rw [cnt_cons, e2, List.length_cons]
    by_cases h1 : a < b
    · rw [if_neg (by omega), if_pos h1]; omega
    · rw [if_pos (by omega), if_neg h1]; omega
theorem gnt_perm (a : Nat) {l m : List Nat} (h : l.Perm m) : gnt a l = gnt a m := (h.filter _).length_eq
theorem invs_rev : ∀ l : List Nat, l.Nodup → 2 * (invs l + invs l.reverse) = l.length * (l.length - 1)
  | [], _ => rfl
  | a :: l, h => by
    have h := List.nodup_cons.mp h
    have ih := invs_rev l h.2
    have hc := cnt_gnt a l h.1
    rw [List.reverse_cons, invs_snoc, gnt_perm a (List.reverse_perm l), invs_cons, List.length_cons]
    simp only [Nat.add_sub_cancel]
    cases hl : l.length with
    | zero => rw [hl] at ih hc; simp at ih ⊢; omega
    | succ m =>
      rw [hl] at ih hc
      simp only [Nat.add_sub_cancel] at ih
      have e : (m + 1 + 1) * (m + 1) = (m + 1) * m + 2 * (m + 1) := by
        rw [Nat.add_mul (m + 1) 1 (m + 1), Nat.mul_add (m + 1) m 1]; omega
      omega
theorem rest_len {n : Nat} {o : List Nat} (h : Od n o) : invs o + invs (io o).reverse = n * (n - 1) / 2 := by
  have h1 := invs_rev (io o) (od_io h).nd
  rw [(od_io h).len, io_invs h] at h1
  omega
theorem rest_dnc {n : Nat} {o d : List Nat} (h : Od n o) (hd : dnc (List.range n) d = (io o).reverse) : dnc o d = (List.range n).reverse := by
  have hl := h.len
  rw [dnc_comp, hl, hd, List.map_reverse]
  congr 1
  unfold io
  rw [List.map_map, hl]
  conv => rhs; rw [← List.map_id (List.range n)]
  apply List.map_congr_left
  intro i hi
  exact get_idx h (List.mem_range.mp hi)
theorem g_inside_out_eq {n : Nat} {o : List Nat} (h : Od n o) : g_inside_out [.list (nl o)] = .lst (nl (io o)) := by
  have hl := h.len
  have h7 := h.nn.hi
  unfold g_inside_out f_inside_out
  simp [runB_e, bVar, rgA1_nat o.length (by omega), small_t (show o.length ≤ 100000 by omega)]
  rw [show nl (List.range o.length) = (List.range o.length).map iN from rfl, lcL_map (.nm 1) _ _ iN (fun i => iN (o.idxOf i)) (List.range o.length)]
  · unfold io nl
    rw [List.map_map]
    rfl
  · intro i hi
    have := List.mem_range.mp hi
    refine ⟨_, rfl, ?_⟩
    simp [bL, bVar, indexD_nl o i (h.lt.mpr (by omega))]
theorem g_back_eq {n : Nat} {o : List Nat} (h : Od n o) : g_back [.list (nl o)] = .lst (nl (io o)) := by
  unfold g_back f_back
  simp [runB_e, eVar, callL_eq (n := 1) (g_asked_order_eq n o h), callL_eq (n := 1) (g_inside_out_eq h)]
theorem g_rest_eq {n : Nat} {o : List Nat} (h : Od n o) : g_rest [.list (nl o)] = .lst (nl (io o).reverse) := by
  unfold g_rest f_rest
  simp [runB_e, eVar, callL_eq (n := 1) (g_asked_order_eq n o h), callL_eq (n := 1) (g_inside_out_eq h), nl_rev]
theorem g_last_eq {n : Nat} (h : Nn n) : g_last [.int (n : Int)] = .lst (nl (List.range n).reverse) := by
  have e := g_asked_dance_eq n [] h ⟨fun s hs => by (cases hs), by simp⟩
  have e : g_asked_dance [.int (n : Int), .list []] = _ := e
  have h7 := h.hi
  unfold g_last f_last
  simp [runB_e, eVar, sDrop, callL_eq (n := 2) e, callL_eq (n := 1) (g_at_first_eq n (by omega)), nl_rev]
theorem sortD_nl (l m : List Nat) (len : l.length < 64) (pm : l.Perm m) (so : m.Pairwise (· ≤ ·)) : sortD (.list (nl l)) = some (nl m) := by
  unfold sortD
  rw [itemsD_l]
  dsimp only
  rw [if_pos (decide_eq_true (by rw [nl_len]; exact len)), intsOf_nl]
  dsimp only
  congr 1
  have : sortK id (l.map fun (x : Nat) => (x : Int)) = m.map fun (x : Nat) => (x : Int) := by
    refine sorted_one (key := id) ((sortK_perm _ _).trans (pm.map _)) (sortK_sorted _ _) ?_ fun a _ b _ h => h
    rw [List.pairwise_map]
    exact so.imp fun h => by show ((_ : Nat) : Int) ≤ ((_ : Nat) : Int); omega
  rw [this, List.map_map]
  rfl
theorem sortD_od {n : Nat} {o : List Nat} (h : Od n o) : sortD (.list (nl o)) = some (nl (List.range n)) :=
  sortD_nl _ _ (by have := h.le; omega) h.pm (invs_sorted _ (invs_range n))
end PM
end
section
set_option Elab.async false
set_option linter.all false
set_option maxRecDepth 100000
set_option autoImplicit false
set_option maxHeartbeats 1000000
/-! all shortest dances of an order act alike where far steps trade and near ones plait; never back -/
namespace PM
open PySem L2 VL PF
theorem swp_cons (a : Nat) (l : List Nat) (k : Nat) : swp (a :: l) (k + 1) = a :: swp l k := by
  cases l with
  | nil => rfl
  | cons b r => rfl
theorem swp_at : ∀ (o : List Nat) (k i : Nat), k + 1 < o.length → (swp o k)[i]?.getD 0 = if i = k then o[k + 1]?.getD 0 else if i = k + 1 then o[k]?.getD 0 else o[i]?.getD 0
  | [], k, i, h => by simp at h
  | [a], k, i, h => by simp at h
  | a :: b :: r, 0, 0, _ => by simp [swp]
  | a :: b :: r, 0, 1, _ => by simp [swp]
  | a :: b :: r, 0, i + 2, _ => by simp [swp]
  | a :: b :: r, k + 1, 0, h => by simp [swp]
  | a :: b :: r, k + 1, i + 1, h => by
    rw [swp_cons]
    have := swp_at (b :: r) k i (by simp at h ⊢; omega)
    simp only [List.getElem?_cons_succ] at this ⊢
    rw [this]
    simp only [Nat.add_right_cancel_iff]
theorem swp_far : ∀ (o : List Nat) (j k : Nat), j + 2 ≤ k → swp (swp o j) k = swp (swp o k) j
  | [], j, k, _ => by simp [swp]
  | [a], j, k, _ => by simp [swp]
  | a :: b :: r, 0, k, h => by
    obtain ⟨m, rfl⟩ : ∃ m, k = m + 2 := ⟨k - 2, by omega⟩
    rw [show swp (a :: b :: r) 0 = b :: a :: r from rfl, swp_cons, swp_cons, swp_cons, swp_cons]
    rfl
  | a :: b :: r, j + 1, k, h => by
    obtain ⟨m, rfl⟩ : ∃ m, k = m + 1 := ⟨k - 1, by omega⟩
    rw [swp_cons, swp_cons, swp_cons, swp_cons, swp_far (b :: r) j m (by omega)]
theorem swp_near : ∀ (o : List Nat) (j : Nat), swp (swp (swp o j) (j + 1)) j = swp (swp (swp o (j + 1)) j) (j + 1) ∨ o.length ≤ j + 2
  | [], j => .inr (by simp)
  | [a], j => .inr (by simp)
  | [a, b], 0 => .inr (by simp)
  | a :: b :: c :: r, 0 => .inl rfl
  | a :: b :: r, j + 1 => by
    rcases swp_near (b :: r) j with h | h
    · left
      rw [swp_cons, swp_cons, swp_cons, swp_cons, swp_cons, swp_cons, h]
    · right
      simp at h ⊢
      omega
def hs : List Nat → Nat → List Nat
  | [], _ => []
  | [a], _ => [a]
  | a :: b :: r, 0 => if a < b then b :: a :: r else a :: b :: r
  | a :: b :: r, k + 1 => a :: hs (b :: r) k
theorem hs_cons (a : Nat) (l : List Nat) (k : Nat) : hs (a :: l) (k + 1) = a :: hs l k := by
  cases l with
  | nil => rfl
  | cons b r => rfl
theorem hs_eq : ∀ (o : List Nat) (k : Nat), k + 1 < o.length → hs o k = if o[k]?.getD 0 < o[k + 1]?.getD 0 then swp o k else o
  | [], k, h => by simp at h
  | [a], k, h => by simp at h
  | a :: b :: r, 0, _ => by simp [hs, swp]
  | a :: b :: r, k + 1, h => by
    rw [hs_cons, swp_cons, hs_eq (b :: r) k (by simp at h ⊢; omega)]
    simp only [List.getElem?_cons_succ]
    split <;> rfl
theorem hs_len : ∀ (o : List Nat) (k : Nat), (hs o k).length = o.length
  | [], k => rfl
  | [a], k => rfl
  | a :: b :: r, 0 => by rw [hs]; split <;> rfl
  | a :: b :: r, k + 1 => by rw [hs_cons, List.length_cons, hs_len (b :: r) k]; rfl
theorem hs_perm : ∀ (o : List Nat) (k : Nat), (hs o k).Perm o
  | [], k => .refl _
  | [a], k => .refl _
  | a :: b :: r, 0 => by
    rw [hs]
    split
    · exact .swap a b r
    · exact .refl _
  | a :: b :: r, k + 1 => by rw [hs_cons]; exact (hs_perm (b :: r) k).cons a
theorem hs_far : ∀ (o : List Nat) (j k : Nat), j + 2 ≤ k → hs (hs o j) k = hs (hs o k) j
  | [], j, k, _ => by simp [hs]
  | [a], j, k, _ => by simp [hs]
  | a :: b :: r, 0, k, h => by
    obtain ⟨m, rfl⟩ : ∃ m, k = m + 2 := ⟨k - 2, by omega⟩
    rw [hs_cons a, hs_cons b]
    by_cases hab : a < b
    · rw [show hs (a :: b :: r) 0 = b :: a :: r by rw [hs, if_pos hab], hs_cons, hs_cons, show hs (a :: b :: hs r m) 0 = b :: a :: hs r m by rw [hs, if_pos hab]]
    · rw [show hs (a :: b :: r) 0 = a :: b :: r by rw [hs, if_neg hab], hs_cons, hs_cons, show hs (a :: b :: hs r m) 0 = a :: b :: hs r m by rw [hs, if_neg hab]]
  | a :: b :: r, j + 1, k, h => by
    obtain ⟨m, rfl⟩ : ∃ m, k = m + 1 := ⟨k - 1, by omega⟩
    rw [hs_cons, hs_cons, hs_cons, hs_cons, hs_far (b :: r) j m (by omega)]
theorem hs_near : ∀ (o : List Nat) (j : Nat), hs (hs (hs o j) (j + 1)) j = hs (hs (hs o (j + 1)) j) (j + 1) ∨ o.length ≤ j + 2
  | [], j => .inr (by simp)
  | [a], j => .inr (by simp)
  | [a, b], 0 => .inr (by simp)
  | a :: b :: c :: r, 0 => by
    left
    by_cases h1 : a < b <;> by_cases h2 : b < c <;> by_cases h3 : a < c <;> first | omega | simp [hs, h1, h2, h3]
    all_goals (try split) <;> (try split) <;> (try split) <;> first | rfl | omega
  | a :: b :: r, j + 1 => by
    rcases hs_near (b :: r) j with h | h
    · left
      rw [hs_cons, hs_cons, hs_cons, hs_cons, hs_cons, hs_cons, h]
    · right
      simp at h ⊢
      omega
theorem hs_hs : ∀ (o : List Nat) (k : Nat), hs (hs o k) k = hs o k
  | [], k => rfl
  | [a], k => rfl
  | a :: b :: r, 0 => by
    by_cases h : a < b
    · have h2 : ¬ b < a := by omega
      simp [hs, h, h2]
    · simp [hs, h]
  | a :: b :: r, k + 1 => by rw [hs_cons, hs_cons, hs_hs (b :: r) k]
/-! shortest dances, by their last step -/
theorem sd_snoc {n : Nat} {b d : List Nat} {k : Nat} (hb : Od n b) : Sd n b (d ++ [k]) ↔ (k + 1 < n ∧ b[k + 1]?.getD 0 < b[k]?.getD 0 ∧ Sd n (swp b k) d) := by
  have hl := hb.len
  constructor
  · intro h
    have hk : k + 1 < n := h.st k (by simp)
    have hst : ∀ s ∈ d, s + 1 < n := fun s hs => h.st s (by simp [hs])
    have hm : dnc (List.range n) d = swp b k := by
      have := h.mks
      rw [dnc_app] at this
      rw [← this]
      show _ = swp (swp (dnc (List.range n) d) k) k
      rw [swp_swp]
    have hle := dnc_invs d (List.range n) (od_range hb.nn) hst
    rw [hm, invs_range] at hle
    have hlen := h.len
    rw [List.length_append] at hlen
    simp at hlen
    have hd : b[k + 1]?.getD 0 < b[k]?.getD 0 := by
      have hne := at_ne hb k hk
      by_cases hh : b[k + 1]?.getD 0 < b[k]?.getD 0
      · exact hh
      · have := swp_up b k (by omega) (by omega)
        omega
    have := swp_down b k (by omega) hd
    exact ⟨hk, hd, hst, hm, by omega⟩
  · rintro ⟨hk, hd, h⟩
    have := swp_down b k (by omega) hd
    have h3 := h.len
    refine ⟨fun s hs => ?_, ?_, ?_⟩
    · rcases List.mem_append.mp hs with hs | hs
      · exact h.st s hs
      · rw [List.mem_singleton.mp hs]; exact hk
    · rw [dnc_app, h.mks]
      exact swp_swp b k
    · rw [List.length_append]
      simp
      omega
/-- what acts so that far steps trade and near ones plait, acts alike along all shortest dances -/
theorem alike {X : Type} {n : Nat} (f : X → Nat → X) (P : X → Prop) (hP : ∀ x k, P x → k + 1 < n → P (f x k))
    (far : ∀ x j k, P x → j + 2 ≤ k → k + 1 < n → f (f x j) k = f (f x k) j) (near : ∀ x j, P x → j + 2 < n → f (f (f x j) (j + 1)) j = f (f (f x (j + 1)) j) (j + 1)) :
    ∀ (m : Nat) (b d d' : List Nat) (x : X), invs b ≤ m → Od n b → P x → Sd n b d → Sd n b d' → d.foldl f x = d'.foldl f x := by
  have hPd : ∀ (d : List Nat) (x : X), P x → (∀ s ∈ d, s + 1 < n) → P (d.foldl f x) := by
    intro d
    induction d with
    | nil => intro x h _; exact h
    | cons k d ih => intro x h hs; exact ih _ (hP x k h (hs k List.mem_cons_self)) fun s h2 => hs s (List.mem_cons_of_mem _ h2)
  intro m
  induction m with
  | zero =>
    intro b d d' x hm _ _ h h'
    have e1 : d = [] := List.length_eq_zero_iff.mp (by have := h.len; omega)
    have e2 : d' = [] := List.length_eq_zero_iff.mp (by have := h'.len; omega)
    rw [e1, e2]
  | succ m ih =>
    intro b d d' x hm hb hx h h'
    have hbl := hb.len
    rcases List.eq_nil_or_concat d with e | ⟨d1, j, e⟩
    · have e2 : d' = [] := List.length_eq_zero_iff.mp (by have h1 := h.len; have h2 := h'.len; rw [e] at h1; simp at h1; omega)
      rw [e, e2]
    rcases List.eq_nil_or_concat d' with e2 | ⟨d2, k, e2⟩
    · have e1 : d = [] := List.length_eq_zero_iff.mp (by have h1 := h.len; have h2 := h'.len; rw [e2] at h2; simp at h2; omega)
      rw [e1, e2]
    rw [List.concat_eq_append] at e e2
    subst e e2
    obtain ⟨hj, dj, s1⟩ := (sd_snoc hb).mp h
    obtain ⟨hk, dk, s2⟩ := (sd_snoc hb).mp h'
    have ij := swp_down b j (by omega) dj
    have ik := swp_down b k (by omega) dk
    have oj := od_swp hb j
    have ok := od_swp hb k
    -- the case of two unlike steps, the lesser first
    have key : ∀ (j k : Nat) (d1 d2 : List Nat), j < k → k + 1 < n → b[j + 1]?.getD 0 < b[j]?.getD 0 → b[k + 1]?.getD 0 < b[k]?.getD 0 → Sd n (swp b j) d1 → Sd n (swp b k) d2 → (d1 ++ [j]).foldl f x = (d2 ++ [k]).foldl f x := by
      intro j k d1 d2 hjk hk dj dk s1 s2
      have ij := swp_down b j (by omega) dj
      have ik := swp_down b k (by omega) dk
      have oj := od_swp hb j
      have ok := od_swp hb k
      have atj : ∀ i, (swp b j)[i]?.getD 0 = _ := fun i => swp_at b j i (by omega)
      have atk : ∀ i, (swp b k)[i]?.getD 0 = _ := fun i => swp_at b k i (by omega)
      by_cases hf : j + 2 ≤ k
      · have ec := swp_far b j k hf
        have djk : (swp b j)[k + 1]?.getD 0 < (swp b j)[k]?.getD 0 := by
          rw [atj, atj, if_neg (by omega), if_neg (by omega), if_neg (by omega), if_neg (by omega)]; exact dk
        have dkj : (swp b k)[j + 1]?.getD 0 < (swp b k)[j]?.getD 0 := by
          rw [atk, atk, if_neg (by omega), if_neg (by omega), if_neg (by omega), if_neg (by omega)]; exact dj
        obtain ⟨w, hw⟩ := sd_ex (od_swp oj k)
        have w1 : Sd n (swp b j) (w ++ [k]) := (sd_snoc oj).mpr ⟨hk, djk, hw⟩
        have w2 : Sd n (swp b k) (w ++ [j]) := (sd_snoc ok).mpr ⟨by omega, dkj, ec ▸ hw⟩
        have e1 := ih _ d1 _ x (by omega) oj hx s1 w1
        have e2 := ih _ d2 _ x (by omega) ok hx s2 w2
        rw [List.foldl_append, List.foldl_append, e1, e2, List.foldl_append, List.foldl_append]
        exact (far _ j k (hPd w x hx hw.st) hf hk).symm
      · have hk1 : k = j + 1 := by omega
        subst hk1
        have en : swp (swp (swp b j) (j + 1)) j = swp (swp (swp b (j + 1)) j) (j + 1) := by
          rcases swp_near b j with h | h
          · exact h
          · omega
        have o2 := od_swp oj (j + 1)
        have o3 := od_swp ok j
        have a1 : (swp b j)[j + 1 + 1]?.getD 0 < (swp b j)[j + 1]?.getD 0 := by
          rw [atj, atj, if_neg (by omega), if_neg (by omega), if_neg (by omega), if_pos rfl]; omega
        have at2 := fun i => swp_at (swp b j) (j + 1) i (by rw [oj.len]; omega)
        have a2 : (swp (swp b j) (j + 1))[j + 1]?.getD 0 < (swp (swp b j) (j + 1))[j]?.getD 0 := by
          rw [at2, at2, if_pos rfl, if_neg (by omega), if_neg (by omega), atj, atj, if_neg (by omega), if_neg (by omega), if_pos rfl]; exact dk
        have b1 : (swp b (j + 1))[j + 1]?.getD 0 < (swp b (j + 1))[j]?.getD 0 := by
          rw [atk, atk, if_pos rfl, if_neg (by omega), if_neg (by omega)]; omega
        have at3 := fun i => swp_at (swp b (j + 1)) j i (by rw [ok.len]; omega)
        have b2 : (swp (swp b (j + 1)) j)[j + 1 + 1]?.getD 0 < (swp (swp b (j + 1)) j)[j + 1]?.getD 0 := by
          rw [at3, at3, if_neg (by omega), if_neg (by omega), if_neg (by omega), if_pos rfl, atk, atk, if_neg (by omega), if_pos rfl, if_neg (by omega), if_neg (by omega)]; exact dj
        obtain ⟨w, hw⟩ := sd_ex (od_swp o2 j)
        have w1 : Sd n (swp b j) (w ++ [j] ++ [j + 1]) := (sd_snoc oj).mpr ⟨hk, a1, (sd_snoc o2).mpr ⟨by omega, a2, hw⟩⟩
        have w2 : Sd n (swp b (j + 1)) (w ++ [j + 1] ++ [j]) := (sd_snoc ok).mpr ⟨by omega, b1, (sd_snoc o3).mpr ⟨hk, b2, en ▸ hw⟩⟩
        have e1 := ih _ d1 _ x (by omega) oj hx s1 w1
        have e2 := ih _ d2 _ x (by omega) ok hx s2 w2
        rw [List.foldl_append, List.foldl_append, e1, e2]
        simp only [List.foldl_append, List.foldl_cons, List.foldl_nil]
        exact near _ j (hPd w x hx hw.st) (by omega)
    rcases Nat.lt_trichotomy j k with hjk | hjk | hjk
    · simpa using key j k d1 d2 hjk hk dj dk s1 s2
    · subst hjk
      simp only [List.foldl_append]
      rw [ih _ d1 d2 x (by omega) oj hx s1 s2]
    · simpa using (key k j d2 d1 hjk hj dk dj s2 s1).symm
def ond (o d : List Nat) : List Nat := d.foldl hs o
theorem ond_alike {n : Nat} {a b d d' : List Nat} (ha : Od n a) (hb : Od n b) (h : Sd n b d) (h' : Sd n b d') : ond a d = ond a d' :=
  alike (n := n) hs (fun x => x.length = n) (fun x k h _ => by rw [hs_len]; exact h) (fun x j k _ h _ => hs_far x j k h)
    (fun x j hx hj => by
      rcases hs_near x j with h | h
      · exact h
      · omega) (invs b) b d d' a (Nat.le_refl _) hb ha.len h h'
theorem od_hs {n : Nat} {o : List Nat} (h : Od n o) (k : Nat) : Od n (hs o k) := ⟨(hs_perm o k).trans h.pm, h.nn⟩
theorem od_ond {n : Nat} : ∀ (d o : List Nat), Od n o → Od n (ond o d)
  | [], o, h => h
  | k :: d, o, h => od_ond d (hs o k) (od_hs h k)
theorem ond_app (o a b : List Nat) : ond o (a ++ b) = ond (ond o a) b := List.foldl_append
/-- one more step behind -/
theorem ond_step {n : Nat} {a b d d' : List Nat} {k : Nat} (ha : Od n a) (hb : Od n b) (hk : k + 1 < n) (h : Sd n b d) (h' : Sd n (hs b k) d') : ond a d' = hs (ond a d) k := by
  have hl := hb.len
  have he := hs_eq b k (by omega)
  have hne := at_ne hb k hk
  by_cases hlt : b[k]?.getD 0 < b[k + 1]?.getD 0
  · rw [if_pos hlt] at he
    rw [he] at h'
    have at1 := fun i => swp_at b k i (by omega)
    have h2 : Sd n (swp b k) (d ++ [k]) := (sd_snoc (od_swp hb k)).mpr ⟨hk, by rw [at1, at1, if_neg (by omega), if_pos rfl, if_pos rfl]; exact hlt, by rw [swp_swp]; exact h⟩
    rw [ond_alike ha (od_swp hb k) h' h2, ond_app]
    rfl
  · rw [if_neg hlt] at he
    rw [he] at h'
    obtain ⟨w, hw⟩ := sd_ex (od_swp hb k)
    have h2 : Sd n b (w ++ [k]) := (sd_snoc hb).mpr ⟨hk, by omega, hw⟩
    rw [ond_alike ha hb h' h2, ond_alike ha hb h h2, ond_app]
    show hs (ond a w) k = hs (hs (ond a w) k) k
    rw [hs_hs]
/-- whichever two are put together first -/
theorem ond_assoc {n : Nat} : ∀ (c a b d e : List Nat), Od n a → Od n b → (∀ s ∈ c, s + 1 < n) → Sd n b d → Sd n (ond b c) e → ond a e = ond (ond a d) c
  | [], a, b, d, e, ha, hb, _, h, h' => ond_alike ha hb h' h
  | k :: c, a, b, d, e, ha, hb, hc, h, h' => by
    have hk := hc k List.mem_cons_self
    obtain ⟨w, hw⟩ := sd_ex (od_hs hb k)
    have := ond_assoc c a (hs b k) w e ha (od_hs hb k) (fun s hs => hc s (List.mem_cons_of_mem _ hs)) hw h'
    rw [this, ond_step ha hb hk h hw]
    rfl
/-! the program's functions -/
theorem g_asked_two_eq {n : Nat} {a b : List Nat} (ha : Od n a) (hb : Od n b) : g_asked_two [.list (nl a), .list (nl b)] = .val (.tuple [.list (nl a), .list (nl b)]) := by
  have h1 := ha.len
  have h2 := hb.len
  unfold g_asked_two f_asked_two
  simp [runB_e, eVar, bVar, callL_eq (n := 1) (g_asked_order_eq n a ha), callL_eq (n := 1) (g_asked_order_eq n b hb), h1, h2]
theorem g_once_eq (o d : List Nat) (hd : ∀ s ∈ d, s + 1 < o.length) (hl : o.length ≤ 1000) : g_once [.list (nl o), .list (nl d)] = .lst (nl (ond o d)) := by
  unfold g_once f_once
  simp [runB_e, uVar, eVar]
  generalize hf : (sIf (b1 (b2 (b2 (uVar 2) (bVar 3) fun a b => ofO (idxD a b)) (b2 (uVar 2) (b2 (bVar 3) (eC (.int 1)) fun a b => ofO (addI a b)) fun a b => ofO (idxD a b)) fun a b => ofO (ltI a b)) asB) (sAsgF 2 (b1 (aCons (bVar 2) (aCons (bVar 3) aNil)) (callLB g_stepped 2))) sNil) = f
  suffices h : ∀ (d o : List Nat) (a b : Slot), (∀ s ∈ d, s + 1 < o.length) → o.length ≤ 1000 → forL (.nm 3) [3] f (nl d) [a, b, .ow (nl o), .no] = .nx [a, b, .ow (nl (ond o d)), .no] by
    rw [h d o _ _ hd hl]
    simp [sRetO]
  intro d
  induction d with
  | nil => intro o a b _ _; rfl
  | cons k d ih =>
    intro o a b hd hl
    have hk := hd k List.mem_cons_self
    have he := hs_eq o k hk
    rw [nl_cons, forL_step (e1 := [a, b, .ow (nl o), .fz (.int (k : Int))]) (e2 := [a, b, .ow (nl (hs o k)), .no]) rfl]
    · exact ih (hs o k) a b (fun s hs => by rw [hs_len]; exact hd s (List.mem_cons_of_mem _ hs)) (by rw [hs_len]; exact hl)
    · subst hf
      by_cases hlt : o[k]?.getD 0 < o[k + 1]?.getD 0
      · rw [if_pos hlt] at he
        simp [uVar, bVar, atI_nl o k (by omega), atI_nl1 o k hk, decide_eq_true hlt, callLB_nl (n := 2) (g_stepped_eq o k hk hl), he]
      · rw [if_neg hlt] at he
        simp [uVar, bVar, atI_nl o k (by omega), atI_nl1 o k hk, decide_eq_false hlt, he]
theorem g_law_once_eq (o d : List Nat) (hd : ∀ s ∈ d, s + 1 < o.length) (hl : o.length ≤ 1000) : g_law_once [.list (nl o), .list (nl d)] = .lst (nl (ond o d)) := by
  unfold g_law_once f_law_once
  simp [runB_e, uVar, eVar]
  generalize hf : (sIf (b1 (b2 (b2 (uVar 2) (bVar 3) fun a b => ofO (idxD a b)) (b2 (uVar 2) (b2 (bVar 3) (eC (.int 1)) fun a b => ofO (addI a b)) fun a b => ofO (idxD a b)) fun a b => ofO (ltI a b)) asB) (sAsgF 2 (b1 (aCons (bVar 2) (aCons (b1 (b1 (aCons (eVar 3) aNil) capL) okL) aNil)) (callLB g_law_danced 2))) sNil) = f
  suffices h : ∀ (d o : List Nat) (a b : Slot), (∀ s ∈ d, s + 1 < o.length) → o.length ≤ 1000 → forL (.nm 3) [3] f (nl d) [a, b, .ow (nl o), .no] = .nx [a, b, .ow (nl (ond o d)), .no] by
    rw [h d o _ _ hd hl]
    simp [sRetO]
  intro d
  induction d with
  | nil => intro o a b _ _; rfl
  | cons k d ih =>
    intro o a b hd hl
    have hk := hd k List.mem_cons_self
    have he := hs_eq o k hk
    have ed := g_law_danced_eq o [k] (fun s hs => by rw [List.mem_singleton.mp hs]; exact hk) hl
    have ed : g_law_danced [.list (nl o), .list [.int (k : Int)]] = .lst (nl (swp o k)) := ed
    rw [nl_cons, forL_step (e1 := [a, b, .ow (nl o), .fz (.int (k : Int))]) (e2 := [a, b, .ow (nl (hs o k)), .no]) rfl]
    · exact ih (hs o k) a b (fun s hs => by rw [hs_len]; exact hd s (List.mem_cons_of_mem _ hs)) (by rw [hs_len]; exact hl)
    · subst hf
      by_cases hlt : o[k]?.getD 0 < o[k + 1]?.getD 0
      · rw [if_pos hlt] at he
        simp [uVar, bVar, eVar, atI_nl o k (by omega), atI_nl1 o k hk, decide_eq_true hlt, callLB_nl (n := 2) ed, he]
      · rw [if_neg hlt] at he
        simp [uVar, bVar, eVar, atI_nl o k (by omega), atI_nl1 o k hk, decide_eq_false hlt, he]
/-- never back: the shortest dance is the program's own -/
theorem g_never_back_ex {n : Nat} {a b : List Nat} (ha : Od n a) (hb : Od n b) : ∃ d, Sd n b d ∧ g_never_back [.list (nl a), .list (nl b)] = .lst (nl (ond a d)) := by
  obtain ⟨d, e, hd⟩ := g_way_to_ex hb
  refine ⟨d, hd, ?_⟩
  have h7 := ha.le
  have eo := g_once_eq a d (fun s hs => by rw [ha.len]; exact hd.st s hs) (by omega)
  unfold g_never_back f_never_back
  simp [runB_e, eVar, sUnp, tgSet, setsE, callV_eq (n := 2) (g_asked_two_eq ha hb), callL_eq (n := 1) e, callL_eq (n := 2) eo]
/-! data alike to themselves; lists of lists -/
theorem eqv_self {d : PyData} (h : SeqAt.shaped d = true) : PyData.eqv d d = true := SeqAt.eqv_refl d (SeqAt.canLay_of_shaped h)
theorem neD_self {d : PyData} (h : SeqAt.shaped d = true) : neD d d = some (.bool false) := by
  unfold neD
  rw [h, eqv_self h]
  rfl
theorem eqD_self {d : PyData} (h : SeqAt.shaped d = true) : eqD d d = some (.bool true) := by
  unfold eqD
  rw [h, eqv_self h]
  rfl
def nll (l : List (List Nat)) : List PyData := l.map fun o => .list (nl o)
@[simp] theorem nll_nil : nll [] = [] := rfl
@[simp] theorem nll_cons (o : List Nat) (l : List (List Nat)) : nll (o :: l) = .list (nl o) :: nll l := rfl
@[simp] theorem nll_len (l : List (List Nat)) : (nll l).length = l.length := List.length_map _
theorem canLayAll_nll : ∀ a : List (List Nat), PyData.canLayAll0 (nll a) = true
  | [] => rfl
  | x :: a => by
    show (PyData.canLayAll0 (nl x) && PyData.canLayAll0 (nll a)) = true
    rw [canLayAll_nll a, canLayAll_nl]; rfl
theorem depthAll_nll : ∀ a : List (List Nat), PyData.depthAll (nll a) ≤ 1
  | [] => Nat.zero_le _
  | x :: a => by
    have := depthAll_nll a
    have h2 := depthAll_nl x
    show max (PyData.depthAll (nl x) + 1) (PyData.depthAll (nll a)) ≤ 1
    omega
@[simp] theorem shaped_nll (a : List (List Nat)) : SeqAt.shaped (.list (nll a)) = true := by
  have h := depthAll_nll a
  unfold SeqAt.shaped
  show (PyData.canLayAll0 (nll a) && decide (PyData.depthAll (nll a) + 1 ≤ 64)) = true
  rw [canLayAll_nll, decide_eq_true (by omega)]; rfl
theorem eqvAll_nll : ∀ a b : List (List Nat), PyData.eqvAll (nll a) (nll b) = decide (a = b)
  | [], [] => rfl
  | [], _ :: _ => rfl
  | _ :: _, [] => rfl
  | x :: a, y :: b => by
    show (PyData.eqv (.list (nl x)) (.list (nl y)) && PyData.eqvAll (nll a) (nll b)) = _
    rw [eqvAll_nll a b, eqv_nl]
    by_cases h : x = y <;> simp [h]
theorem eqD_nll (a b : List (List Nat)) : eqD (.list (nll a)) (.list (nll b)) = some (.bool (decide (a = b))) := by
  unfold eqD; rw [shaped_nll, shaped_nll]; exact congrArg (fun z => some (PyData.bool z)) (eqvAll_nll a b)
theorem neD_nll (a b : List (List Nat)) : neD (.list (nll a)) (.list (nll b)) = some (.bool (!decide (a = b))) := by
  unfold neD; rw [shaped_nll, shaped_nll]; exact congrArg (fun z => some (PyData.bool (!z))) (eqvAll_nll a b)
end PM
end
section
set_option Elab.async false
set_option linter.all false
set_option maxRecDepth 100000
set_option autoImplicit false
set_option maxHeartbeats 1000000
/-! on the way -/
namespace PM
open PySem L2 VL PF
theorem inD_pl (neg : Bool) (p : Nat × Nat) (l : List (Nat × Nat)) : inD neg (.tuple [.int (p.1 : Int), .int (p.2 : Int)]) (.list (pl l)) = some (.bool (if neg then !decide (p ∈ l) else decide (p ∈ l))) := by
  have h : ((pl l).any fun z => PyData.eqv z (pN p)) = decide (p ∈ l) := by
    induction l with
    | nil => rfl
    | cons q l ih =>
      show (PyData.eqv (pN q) (pN p) || (pl l).any fun z => PyData.eqv z (pN p)) = _
      rw [eqv_pN, ih, ← Bool.decide_or]
      congr 1
      rw [List.mem_cons]
      exact propext ⟨fun h => h.imp Eq.symm id, fun h => h.imp Eq.symm id⟩
  unfold inD
  dsimp only
  rw [show SeqAt.shaped (.tuple [.int (p.1 : Int), .int (p.2 : Int)]) = true from rfl, shaped_pl]
  simp only [Bool.and_self, if_true]
  rw [h]
theorem inD_nll (neg : Bool) (p : List Nat) (l : List (List Nat)) : inD neg (.list (nl p)) (.list (nll l)) = some (.bool (if neg then !decide (p ∈ l) else decide (p ∈ l))) := by
  have h : ((nll l).any fun z => PyData.eqv z (.list (nl p))) = decide (p ∈ l) := by
    induction l with
    | nil => rfl
    | cons q l ih =>
      show (PyData.eqv (.list (nl q)) (.list (nl p)) || (nll l).any fun z => PyData.eqv z (.list (nl p))) = _
      rw [eqv_nl, ih, ← Bool.decide_or]
      congr 1
      rw [List.mem_cons]
      exact propext ⟨fun h => h.imp Eq.symm id, fun h => h.imp Eq.symm id⟩
  unfold inD
  dsimp only
  rw [shaped_nl, shaped_nll]
  simp only [Bool.and_self, if_true]
  rw [h]
def sub (a b : List Nat) : Bool := (prs a).all fun p => decide (p ∈ prs b)
theorem g_on_way_eq {n : Nat} {a b : List Nat} (ha : Od n a) (hb : Od n b) : g_on_way [.list (nl a), .list (nl b)] = .val (.bool (sub a b)) := by
  have hp := prs_len ha
  unfold g_on_way f_on_way
  have e := lcL_map (.nm 5) (b2 (bVar 5) (bVar 2) fun a b => ofO ((inD false) a b)) [.fz (.list (nl a)), .fz (.list (nl b)), .fz (.list (pl (prs b))), .fz (.list (nl a)), .fz (.list (nl b)), .no] pN (fun p => .bool (decide (p ∈ prs b))) (prs a) (fun p _ => ⟨_, rfl, by simp [bVar, inD_pl]⟩)
  rw [show (prs a).map pN = pl (prs a) from rfl] at e
  simp [runB_e, eVar, bVar, sUnp, tgSet, setsE, callV_eq (n := 2) (g_asked_two_eq ha hb), callL_eq (n := 1) (g_pairs_in_eq ha), callL_eq (n := 1) (g_pairs_in_eq hb), small_t (show (prs a).length ≤ 100000 by omega)]
  rw [e]
  simp [allD_t, sub]
/-- all lists of so many numbers below a bound -/
def allL (n : Nat) : Nat → List (List Nat)
  | 0 => [[]]
  | k + 1 => (List.range n).flatMap fun x => (allL n k).map (x :: ·)
theorem mem_allL (n : Nat) : ∀ (k : Nat) (l : List Nat), l.length = k → (∀ x ∈ l, x < n) → l ∈ allL n k
  | 0, l, h, _ => by rw [List.length_eq_zero_iff.mp h]; exact List.mem_cons_self
  | k + 1, [], h, _ => by simp at h
  | k + 1, x :: l, h, hx => by
    rw [allL, List.mem_flatMap]
    exact ⟨x, List.mem_range.mpr (hx x List.mem_cons_self), List.mem_map.mpr ⟨l, mem_allL n k l (by simpa using h) fun y hy => hx y (List.mem_cons_of_mem _ hy), rfl⟩⟩
def ords (n : Nat) : List (List Nat) := (allL n n).filter fun l => l.isPerm (List.range n)
theorem mem_ords {n : Nat} {o : List Nat} (h : Od n o) : o ∈ ords n := by
  rw [ords, List.mem_filter]
  exact ⟨mem_allL n n o h.len fun x hx => h.lt.mp hx, List.isPerm_iff.mpr h.pm⟩
def unL : PyData → List Nat
  | .list l => l.map fun | .int i => i.toNat | _ => 0
  | _ => []
def chkR (n : Nat) (a : List Nat) : Bool := match g_law_reached [.list (nl a)] with
  | .lst ds => (ords n).all fun b => match inD false (.list (nl b)) (.list ds) with
    | some (.bool x) => x == sub a b
    | _ => false
  | _ => false
theorem chk4 : ∀ n ∈ [1, 2, 3, 4], (ords n).all (chkR n) = true := by decide +kernel
theorem g_law_due_eq {n : Nat} {a b : List Nat} (ha : Od n a) (hb : Od n b) : g_law_due [.list (nl a), .list (nl b)] = .val (.bool (sub a b)) := by
  have hp := prs_len ha
  have la := ha.len
  have n1 := ha.nn.lo
  have n7 := ha.nn.hi
  unfold g_law_due f_law_due
  by_cases h5 : n < 5
  · have h5i : (a.length : Int) < 5 := by omega
    have hc := List.all_eq_true.mp (chk4 n (by simp; omega)) a (mem_ords ha)
    unfold chkR at hc
    cases hr : g_law_reached [.list (nl a)] with
    | lst ds =>
      rw [hr] at hc
      have hc := List.all_eq_true.mp hc b (mem_ords hb)
      cases hi : inD false (.list (nl b)) (.list ds) with
      | none => rw [hi] at hc; cases hc
      | some d =>
        rw [hi] at hc
        cases d with
        | bool x =>
          have hx : x = sub a b := by simpa using hc
          subst hx
          simp [runB_e, eVar, bVar, h5i, callL_eq (n := 1) hr, hi]
        | _ => cases hc
    | _ => rw [hr] at hc; cases hc
  · have h5i : ¬ (a.length : Int) < 5 := by omega
    have e := lcL_map (.nm 2) (b2 (bVar 2) (b1 (b1 (aCons (eVar 1) aNil) (callL g_law_pairs 1)) okL) fun a b => ofO ((inD false) a b)) [.fz (.list (nl a)), .fz (.list (nl b)), .no] pN (fun p => .bool (decide (p ∈ prs b))) (prs a) (fun p _ => ⟨_, rfl, by simp [bVar, eVar, inD_pl, callL_eq (n := 1) (g_law_pairs_eq hb)]⟩)
    rw [show (prs a).map pN = pl (prs a) from rfl] at e
    simp [runB_e, eVar, bVar, h5i, callL_eq (n := 1) (g_law_pairs_eq ha), small_t (show (prs a).length ≤ 100000 by omega)]
    rw [e]
    simp [allD_t, sub]
theorem g_law_on_ex {n : Nat} {o : List Nat} (h : Od n o) (c : Int) : ∃ o', g_law_on [.list (nl o), .int c] = .lst (nl o') ∧ Od n o' := by
  have n7 := h.nn.hi
  have n1 := h.nn.lo
  obtain ⟨m, hm, em⟩ := g_drawn c 1 4 (by omega)
  have em : g_law_draw [.int c, .int 1, .int 4] = _ := em
  unfold g_law_on f_law_on
  simp [runB_e, uVar, eVar, bVar, callV_eq (n := 3) em, rgA1_nat m (by omega)]
  generalize hf : (sSeq (sAsgE 4 _) (sIf _ _ _)) = f
  suffices hs : ∀ (l : List Nat) (o : List Nat) (x0 : Slot), Od n o → ∃ o', forL (.nm 3) [3, 4] f (nl l) [x0, .fz (.int c), .ow (nl o), .no, .no, .no] = .nx [x0, .fz (.int c), .ow (nl o'), .no, .no, .no] ∧ Od n o' by
    obtain ⟨o', e, ho⟩ := hs (List.range m) o (.fz (.list (nl o))) h
    refine ⟨o', ?_, ho⟩
    rw [e]
    simp [sRetO]
  intro l
  induction l with
  | nil => intro o x0 h; exact ⟨o, rfl, h⟩
  | cons k l ih =>
    intro o x0 ho
    have hlen := ho.len
    obtain ⟨steps, hst⟩ : ∃ steps : List Nat, steps = (List.range (n - 1)).filter (fun k => decide (o[k]?.getD 0 < o[k + 1]?.getD 0)) := ⟨_, rfl⟩
    have hsl : steps.length ≤ 7 := by rw [hst]; have := List.length_filter_le (fun k => decide (o[k]?.getD 0 < o[k + 1]?.getD 0)) (List.range (n - 1)); rw [List.length_range] at this; omega
    have er : rgA1 [.int ((o.length : Int) - 1)] = some (nl (List.range (n - 1))) := by
      rw [show (o.length : Int) - 1 = ((n - 1 : Nat) : Int) by omega, rgA1_nat _ (by omega)]
    have elc : ∀ x3 : Slot, lcL (.nm 5) (b1 (b2 (b2 (uVar 2) (bVar 5) fun a b => ofO (idxD a b)) (b2 (uVar 2) (b2 (bVar 5) (eC (.int 1)) fun a b => ofO (addI a b)) fun a b => ofO (idxD a b)) fun a b => ofO (ltI a b)) asB) (eVar 5) (nl (List.range (n - 1))) [x0, .fz (.int c), .ow (nl o), x3, .no, .no] = .ok (nl steps) := fun x3 => by
      rw [show nl (List.range (n - 1)) = (List.range (n - 1)).map iN from rfl, lcL_eq (.nm 5) _ _ _ iN (fun k => decide (o[k]?.getD 0 < o[k + 1]?.getD 0)) iN, hst]
      · rfl
      · intro j hj
        have := List.mem_range.mp hj
        refine ⟨_, rfl, ?_, fun _ => rfl⟩
        simp [uVar, bVar, atI_nl o j (by omega), atI_nl1 o j (by omega)]
    by_cases h0 : steps = []
    · obtain ⟨o', e, h'⟩ := ih o x0 ho
      refine ⟨o', ?_, h'⟩
      rw [nl_cons, forL_step (e1 := [x0, .fz (.int c), .ow (nl o), .fz (.int (k : Int)), .no, .no]) (e2 := [x0, .fz (.int c), .ow (nl o), .no, .no, .no]) rfl]
      · exact e
      · subst hf
        simp [uVar, bVar, eVar, er, small_t (show n - 1 ≤ 100000 by omega), elc, h0]
    · have hpos : 0 < steps.length := List.length_pos_iff.mpr h0
      obtain ⟨i, hi, ei⟩ := g_drawn c ((k : Int) + 2) steps.length hpos
      have hmem : steps[i]?.getD 0 ∈ steps := by rw [List.getElem?_eq_getElem hi]; exact List.getElem_mem hi
      obtain ⟨q, hq⟩ : ∃ q, q = steps[i]?.getD 0 := ⟨_, rfl⟩
      rw [← hq] at hmem
      rw [hst, List.mem_filter, List.mem_range] at hmem
      obtain ⟨o', e, h'⟩ := ih (swp o q) x0 (od_swp ho q)
      refine ⟨o', ?_, h'⟩
      have ed := g_law_danced_eq o [q] (fun s hs => by rw [List.mem_singleton.mp hs]; omega) (by omega)
      have ed : g_law_danced [.list (nl o), .list [.int (q : Int)]] = .lst (nl (swp o q)) := ed
      rw [nl_cons, forL_step (e1 := [x0, .fz (.int c), .ow (nl o), .fz (.int (k : Int)), .no, .no]) (e2 := [x0, .fz (.int c), .ow (nl (swp o q)), .no, .no, .no]) rfl]
      · exact e
      · subst hf
        simp [uVar, bVar, eVar, er, small_t (show n - 1 ≤ 100000 by omega), elc, h0, callV_eq (n := 3) ei, atI_nl steps i hi, ← hq, callLB_nl (n := 2) ed]
end PM
end
section
set_option Elab.async false
set_option linter.all false
set_option maxRecDepth 100000
set_option autoImplicit false
set_option maxHeartbeats 1000000
set_option pp.maxSteps 400
/-! how many shortest dances: the count with a dict -/
namespace PM
open PySem L2 VL PF
/-- how many shortest dances make an order -/
def Wf : Nat → List Nat → Nat
  | 0, _ => 0
  | m + 1, o => (if o = List.range o.length then 1 else 0) + ((List.range (o.length - 1)).map fun k => if o[k + 1]?.getD 0 < o[k]?.getD 0 then Wf m (swp o k) else 0).sum
def W (o : List Nat) : Nat := Wf (invs o + 1) o
theorem Wf_more : ∀ (m j : Nat) (o : List Nat), invs o < m → Wf (m + j) o = Wf m o
  | 0, j, o, h => by omega
  | m + 1, j, o, h => by
    rw [show m + 1 + j = (m + j) + 1 by omega, Wf, Wf]
    congr 2
    refine List.map_congr_left fun k hk => ?_
    have hk := List.mem_range.mp hk
    by_cases hd : o[k + 1]?.getD 0 < o[k]?.getD 0
    · rw [if_pos hd, if_pos hd]
      have := swp_down o k (by omega) hd
      exact Wf_more m j (swp o k) (by omega)
    · rw [if_neg hd, if_neg hd]
/-- what one step adds -/
def Wk (o : List Nat) (k : Nat) : Nat := if o[k + 1]?.getD 0 < o[k]?.getD 0 then W (swp o k) else 0
theorem W_eq (o : List Nat) : W o = (if o = List.range o.length then 1 else 0) + ((List.range (o.length - 1)).map (Wk o)).sum := by
  unfold W
  rw [Wf]
  congr 2
  refine List.map_congr_left fun k hk => ?_
  have hk := List.mem_range.mp hk
  unfold Wk
  by_cases hd : o[k + 1]?.getD 0 < o[k]?.getD 0
  · rw [if_pos hd, if_pos hd]
    have := swp_down o k (by omega) hd
    unfold W
    rw [← this]
  · rw [if_neg hd, if_neg hd]
/-! keys, orders -/
def il (o : List Nat) : List Int := o.map fun (n : Nat) => (n : Int)
theorem il_inj : ∀ {a b : List Nat}, il a = il b → a = b
  | [], [], _ => rfl
  | [], _ :: _, h => by cases h
  | _ :: _, [], h => by cases h
  | x :: a, y :: b, h => by
    have h : (x : Int) :: il a = (y : Int) :: il b := h
    injection h with h1 h2
    rw [il_inj h2, show x = y by omega]
def prm : List Nat → List (List Nat)
  | [] => [[]]
  | a :: l => (prm l).flatMap fun p => (List.range (p.length + 1)).map fun i => p.take i ++ a :: p.drop i
theorem prm_mem : ∀ (l o : List Nat), o.Perm l → o ∈ prm l
  | [], o, h => by rw [h.eq_nil]; simp [prm]
  | a :: l, o, h => by
    have ha : a ∈ o := h.mem_iff.mpr (by simp)
    obtain ⟨s, t, rfl⟩ := List.append_of_mem ha
    have h2 : (s ++ t).Perm l := (List.perm_middle.symm.trans h).cons_inv
    exact List.mem_flatMap.mpr ⟨s ++ t, prm_mem l _ h2, List.mem_map.mpr ⟨s.length, by simp; omega, by simp⟩⟩
def fac : Nat → Nat
  | 0 => 1
  | n + 1 => fac n * (n + 1)
theorem prm_each : ∀ (l p : List Nat), p ∈ prm l → p.length = l.length
  | [], p, h => by simp [prm] at h; rw [h]
  | a :: l, p, h => by
    obtain ⟨q, hq, h2⟩ := List.mem_flatMap.mp h
    obtain ⟨i, hi, rfl⟩ := List.mem_map.mp h2
    have := prm_each l q hq
    have hi := List.mem_range.mp hi
    simp
    omega
theorem sum_const {α : Type} (f : α → Nat) (c : Nat) : ∀ l : List α, (∀ x ∈ l, f x = c) → (l.map f).sum = l.length * c
  | [], _ => by simp
  | x :: l, h => by
    rw [List.map_cons, List.sum_cons, sum_const f c l fun y hy => h y (List.mem_cons_of_mem _ hy), h x List.mem_cons_self, List.length_cons, Nat.add_mul, Nat.one_mul, Nat.add_comm]
theorem prm_len : ∀ l : List Nat, (prm l).length = fac l.length
  | [] => rfl
  | a :: l => by
    show ((prm l).flatMap _).length = fac l.length * (l.length + 1)
    rw [List.length_flatMap, sum_const _ (l.length + 1) (prm l) fun p hp => by rw [List.length_map, List.length_range, prm_each l p hp], prm_len l]
theorem nodup_le {α : Type} [BEq α] [LawfulBEq α] : ∀ (l m : List α), l.Nodup → (∀ x ∈ l, x ∈ m) → l.length ≤ m.length
  | [], m, _, _ => Nat.zero_le _
  | a :: l, m, h, s => by
    have ha : a ∈ m := s a List.mem_cons_self
    obtain ⟨h1, h2⟩ := List.nodup_cons.mp h
    have := nodup_le l (m.erase a) h2 fun x hx => (List.mem_erase_of_ne fun (e : x = a) => h1 (e ▸ hx)).mpr (s x (List.mem_cons_of_mem _ hx))
    rw [List.length_erase_of_mem ha] at this
    have := List.length_pos_of_mem ha
    rw [List.length_cons]
    omega
theorem fac_7 {n : Nat} (h : n ≤ 7) : fac n ≤ 5040 := by
  obtain rfl | rfl | rfl | rfl | rfl | rfl | rfl | rfl : n = 0 ∨ n = 1 ∨ n = 2 ∨ n = 3 ∨ n = 4 ∨ n = 5 ∨ n = 6 ∨ n = 7 := by omega
  all_goals decide
/-- different orders are few -/
theorem od_few {n : Nat} (hn : n ≤ 7) (l : List (List Nat)) (h : ∀ o ∈ l, Od n o) (nd : l.Nodup) : l.length ≤ 5040 := by
  have := nodup_le l (prm (List.range n)) nd fun o ho => prm_mem _ _ (h o ho).pm
  rw [prm_len, List.length_range] at this
  exact Nat.le_trans this (fac_7 hn)
/-! the dict -/
structure DOk (n : Nat) (kvs : DK) : Prop where
  right : ∀ q ∈ kvs, ∃ o, Od n o ∧ q.1 = il o ∧ q.2 = (W o : Int)
  nd : (kvs.map (·.1)).Nodup
theorem DOk.nil (n : Nat) : DOk n [] := ⟨fun q h => absurd h (by simp), List.Pairwise.nil⟩
theorem DOk.few {n : Nat} (hn : n ≤ 7) {kvs : DK} (h : DOk n kvs) : kvs.length ≤ 5040 := by
  have := nodup_le (kvs.map (·.1)) ((prm (List.range n)).map il) h.nd fun x hx => by
    obtain ⟨q, hq, rfl⟩ := List.mem_map.mp hx
    obtain ⟨o, ho, e, _⟩ := h.right q hq
    rw [e]
    exact List.mem_map.mpr ⟨o, prm_mem _ _ ho.pm, rfl⟩
  rw [List.length_map, List.length_map, prm_len, List.length_range] at this
  exact Nat.le_trans this (fac_7 hn)
theorem look_some {kvs : DK} {k : List Int} {v : Int} (h : lookI kvs k = some v) : ∃ q ∈ kvs, q.1 = k ∧ q.2 = v := by
  unfold lookI at h
  cases hf : kvs.find? (fun q => decide (q.1 = k)) with
  | none => rw [hf] at h; cases h
  | some q =>
    rw [hf] at h
    cases h
    have h2 := List.find?_some hf
    exact ⟨q, List.mem_of_find?_eq_some hf, of_decide_eq_true h2, rfl⟩
theorem look_none {kvs : DK} {k : List Int} (h : lookI kvs k = none) : ∀ q ∈ kvs, q.1 ≠ k := by
  unfold lookI at h
  rw [Option.map_eq_none_iff, List.find?_eq_none] at h
  intro q hq e
  exact h q hq (decide_eq_true e)
theorem put_new {kvs : DK} {k : List Int} {v : Int} (h : lookI kvs k = none) : putI kvs k v = kvs ++ [(k, v)] := by
  unfold putI
  rw [if_neg]
  intro ha
  obtain ⟨q, hq, e⟩ := List.any_eq_true.mp ha
  exact look_none h q hq (of_decide_eq_true e)
theorem look_put {kvs : DK} {k : List Int} {v : Int} (h : lookI kvs k = none) : lookI (kvs ++ [(k, v)]) k = some v := by
  unfold lookI at *
  rw [Option.map_eq_none_iff] at h
  rw [List.find?_append, h]
  simp
theorem look_right {n : Nat} {kvs : DK} (h : DOk n kvs) {o : List Nat} {v : Int} (e : lookI kvs (il o) = some v) : v = (W o : Int) := by
  obtain ⟨q, hq, e1, e2⟩ := look_some e
  obtain ⟨o', _, e3, e4⟩ := h.right q hq
  rw [e1] at e3
  rw [il_inj e3, ← e4, e2]
theorem put_same {n : Nat} {kvs : DK} (h : DOk n kvs) {o : List Nat} {v : Int} (e : lookI kvs (il o) = some v) : putI kvs (il o) (W o : Int) = kvs := by
  obtain ⟨q, hq, e1, _⟩ := look_some e
  unfold putI
  rw [if_pos (List.any_eq_true.mpr ⟨q, hq, decide_eq_true e1⟩)]
  conv => rhs; rw [← List.map_id kvs]
  refine List.map_congr_left fun q hq => ?_
  by_cases hk : q.1 = il o
  · obtain ⟨o', _, e3, e4⟩ := h.right q hq
    rw [if_pos hk]
    rw [hk] at e3
    have := il_inj e3
    subst this
    show _ = q
    rw [← e4]
  · rw [if_neg hk]
    rfl
theorem DOk.put {n : Nat} {kvs : DK} (h : DOk n kvs) {o : List Nat} (ho : Od n o) (e : lookI kvs (il o) = none) : DOk n (kvs ++ [(il o, (W o : Int))]) := by
  refine ⟨fun q hq => ?_, ?_⟩
  · rcases List.mem_append.mp hq with hq | hq
    · exact h.right q hq
    · simp at hq
      subst hq
      exact ⟨o, ho, rfl, rfl⟩
  · rw [List.map_append]
    refine List.nodup_append.mpr ⟨h.nd, by simp, fun a ha b hb => ?_⟩
    simp at hb
    subst hb
    obtain ⟨q, hq, rfl⟩ := List.mem_map.mp ha
    exact look_none e q hq
theorem keyI_nl (o : List Nat) : keyI (.tuple (nl o)) = some (il o) := intsOf_nl o
theorem dget_e {i : Nat} {fb : Ev → Res PyData} {e : Ev} {p : Addr} {kvs : DK} {d : PyData} {k : List Int} {v : Int} (h1 : e[i]? = some (.ob (.dpin p kvs))) (h2 : fb e = .ok d) (h3 : keyI d = some k) (h4 : lookI kvs k = some v) : dGetP i fb e = .ok (.int v) := by
  unfold dGetP
  rw [h1]
  dsimp only
  rw [h2, bind_ok, h3]
  dsimp only
  rw [h4]
theorem dnot_e {i : Nat} {fb : Ev → Res PyData} {e : Ev} {p : Addr} {kvs : DK} {d : PyData} {k : List Int} (h1 : e[i]? = some (.ob (.dpin p kvs))) (h2 : fb e = .ok d) (h3 : keyI d = some k) : dNotP i fb e = .ok (!(lookI kvs k).isSome) := by
  unfold dNotP
  rw [h2, bind_ok, h1, h3]
theorem dput_e {i : Nat} {fk fv : Ev → Res PyData} {e : Ev} {p : Addr} {kvs : DK} {d : PyData} {k : List Int} {v : Int} (h1 : e[i]? = some (.ob (.dpin p kvs))) (h2 : fk e = .ok d) (h3 : keyI d = some k) (h4 : fv e = .ok (.int v)) (h5 : kvs.length ≤ 100000) : sDPutP i fk fv e = .nx (e.set i (.ob (.dpin p (putI kvs k v)))) := by
  unfold sDPutP
  rw [h4]
  dsimp only
  rw [h1]
  dsimp only
  rw [h2]
  dsimp only
  rw [h3]
  dsimp only
  rw [if_pos (small_t h5)]
theorem eqD_rg {n : Nat} {o : List Nat} (h : o.length = n) : eqD (.list (nl o)) (.list (nl (List.range n))) = some (.bool (decide (o = List.range o.length))) := by
  rw [eqD_nl, h]
theorem ways_ok {n : Nat} : ∀ (k : Nat) (o : List Nat) (kvs : DK) (p : Addr), Od n o → invs o < k → DOk n kvs → ∃ kvs', gC_ways_to k p (.list (nl o)) kvs = .ok kvs' (W o : Int) ∧ DOk n kvs'
  | 0, o, kvs, p, _, h, _ => by omega
  | k + 1, o, kvs, p, ho, hi, hd => by
    have n7 := ho.nn.hi
    have n1 := ho.nn.lo
    have hl := ho.len
    show ∃ kvs', runD (fC_ways_to (gC_ways_to k)) 5 p (.list (nl o)) kvs = _ ∧ _
    unfold runD fC_ways_to
    generalize hb : (sIf (b1 (b2 (b2 (uVar 0) (bVar 4) fun a b => ofO (idxD a b)) _ _) asB) _ sNil) = body
    have loop : ∀ (ks : List Nat) (x2 : Slot) (kvs : DK) (m : Nat), (∀ j ∈ ks, j + 1 < n) → DOk n kvs → ∃ kvs', forL (.nm 4) [4] body (nl ks) [.fz (.list (nl o)), .ob (.dpin p kvs), x2, .fz (.int (m : Int)), .no] = .nx [.fz (.list (nl o)), .ob (.dpin p kvs'), x2, .fz (.int ((m + (ks.map (Wk o)).sum : Nat) : Int)), .no] ∧ DOk n kvs' := by
      intro ks
      induction ks with
      | nil =>
        intro x2 kvs m _ hd
        exact ⟨kvs, rfl, hd⟩
      | cons j ks ih =>
        intro x2 kvs m hj hd
        have hj1 := hj j List.mem_cons_self
        have a0 := atI_nl o j (by omega)
        have a1 := atI_nl1 o j (by omega)
        by_cases hdn : o[j + 1]?.getD 0 < o[j]?.getD 0
        · have hw : Wk o j = W (swp o j) := by unfold Wk; rw [if_pos hdn]
          have hdown := swp_down o j (by omega) hdn
          have hos : Od n (swp o j) := od_swp ho j
          obtain ⟨kvs1, e1, hd1⟩ := ways_ok k (swp o j) kvs p hos (by omega) hd
          obtain ⟨kvs2, e2, hd2⟩ := ih x2 kvs1 (m + W (swp o j)) (fun i h => hj i (List.mem_cons_of_mem _ h)) hd1
          refine ⟨kvs2, ?_, hd2⟩
          rw [nl_cons, forL_cons]
          simp only [tgSet_nm, List.set_cons_succ, List.set_cons_zero]
          have hi2 : ((o[j + 1]?.getD 0 : Nat) : Int) < ((o[j]?.getD 0 : Nat) : Int) := by omega
          have hbd : body [.fz (.list (nl o)), .ob (.dpin p kvs), x2, .fz (.int (m : Int)), .fz (.int (j : Int))] = .nx [.fz (.list (nl o)), .ob (.dpin p kvs1), x2, .fz (.int ((m : Int) + (W (swp o j) : Int))), .fz (.int (j : Int))] := by
            subst hb
            simp only [sIf_e, sAddCallD, b1_e, b2_e, eC_e, aCons_e, aNil_e, eVar, bVar, uVar, List.getElem?_cons_succ, List.getElem?_cons_zero, bind_ok, idxD_l, a0, a1, ofO_some, addI_i, gtI_i, asB_e, decide_eq_true hi2, thn_ok, callL_eq (n := 2) (g_stepped_eq o j (by omega) (by omega)) rfl, okL_e, e1, List.set_cons_succ, List.set_cons_zero]
          rw [hbd]
          simp only [killS_cons, killS_nil, List.set_cons_succ, List.set_cons_zero]
          rw [show (m : Int) + (W (swp o j) : Int) = ((m + W (swp o j) : Nat) : Int) by omega, e2, List.map_cons, List.sum_cons, hw, Nat.add_assoc]
        · have hw : Wk o j = 0 := by unfold Wk; rw [if_neg hdn]
          obtain ⟨kvs2, e2, hd2⟩ := ih x2 kvs m (fun i h => hj i (List.mem_cons_of_mem _ h)) hd
          refine ⟨kvs2, ?_, hd2⟩
          rw [nl_cons, forL_cons]
          simp only [tgSet_nm, List.set_cons_succ, List.set_cons_zero]
          have hi2 : ¬ ((o[j + 1]?.getD 0 : Nat) : Int) < ((o[j]?.getD 0 : Nat) : Int) := by omega
          have hbd : body [.fz (.list (nl o)), .ob (.dpin p kvs), x2, .fz (.int (m : Int)), .fz (.int (j : Int))] = .nx [.fz (.list (nl o)), .ob (.dpin p kvs), x2, .fz (.int (m : Int)), .fz (.int (j : Int))] := by
            subst hb
            simp only [sIf_e, b1_e, b2_e, eC_e, aCons_e, aNil_e, eVar, bVar, uVar, List.getElem?_cons_succ, List.getElem?_cons_zero, bind_ok, idxD_l, a0, a1, ofO_some, addI_i, gtI_i, asB_e, decide_eq_false hi2, thn_ok, sNil_e]
          rw [hbd]
          simp only [killS_cons, killS_nil, List.set_cons_succ, List.set_cons_zero]
          rw [e2, List.map_cons, List.sum_cons, hw, Nat.zero_add]
    have htup : (b1 (uVar 0) fun d => ofO (tupD d)) (.fz (.list (nl o)) :: .ob (.dpin p kvs) :: List.replicate (5 - 2) .no) = .ok (.tuple (nl o)) := rfl
    rw [sSeq_e, sAsgE_e, htup]
    simp only [thn_ok, sSeq_e, sIf_e, Nat.reduceSub, List.replicate_succ, List.replicate_zero, List.set_cons_succ, List.set_cons_zero]
    rw [dnot_e (p := p) (kvs := kvs) (d := .tuple (nl o)) (k := il o) rfl rfl (keyI_nl o)]
    cases hlk : lookI kvs (il o) with
    | some v =>
      have hv := look_right hd hlk
      subst hv
      refine ⟨kvs, ?_, hd⟩
      simp only [Option.isSome_some, Bool.not_true, thn_ok, sNil_e, sRetS]
      rw [dget_e (p := p) (kvs := kvs) (d := .tuple (nl o)) (k := il o) (v := (W o : Int)) rfl rfl (keyI_nl o) hlk]
      simp only [thn_ok, finD, List.getElem?_cons_succ, List.getElem?_cons_zero, if_true]
    | none =>
      have rg := rgA1_nat (n - 1) (by omega)
      rw [show ((n - 1 : Nat) : Int) = (n : Int) - 1 by omega] at rg
      have hiv : intV [.bool (decide (o = List.range o.length))] = some (.int (((if o = List.range o.length then 1 else 0 : Nat)) : Int)) := by
        by_cases h : o = List.range o.length
        · rw [decide_eq_true h, if_pos h]; rfl
        · rw [decide_eq_false h, if_neg h]; rfl
      obtain ⟨kvs1, e1, hd1⟩ := loop (List.range (n - 1)) (.fz (.tuple (nl o))) kvs (if o = List.range o.length then 1 else 0) (fun j hj => by have := List.mem_range.mp hj; omega) hd
      have hW := W_eq o
      rw [hl] at hW
      rw [hl] at e1 hiv
      rw [← hW] at e1
      simp only [Option.isSome_none, Bool.not_false, thn_ok, sAsgE_e, b1_e, b2_e, eC_e, aCons_e, aNil_e, bVar, List.getElem?_cons_succ, List.getElem?_cons_zero, bind_ok, lenD_l, nl_len, hl, ofO_some, callL_eq (n := 1) (g_at_first_eq n (by omega)) rfl, okL_e, eqD_nl, hiv, List.set_cons_succ, List.set_cons_zero, sFor_e, subI_i, rg, killS_cons, killS_nil, e1]
      cases hlk1 : lookI kvs1 (il o) with
      | some v =>
        have hv := look_right hd1 hlk1
        refine ⟨kvs1, ?_, hd1⟩
        rw [dput_e (p := p) (kvs := kvs1) (d := .tuple (nl o)) (k := il o) (v := (W o : Int)) rfl rfl (keyI_nl o) rfl (by have := hd1.few n7; omega), put_same hd1 hlk1]
        simp only [List.set_cons_succ, List.set_cons_zero, sRetS]
        rw [dget_e (p := p) (kvs := kvs1) (d := .tuple (nl o)) (k := il o) (v := (W o : Int)) rfl rfl (keyI_nl o) (hv ▸ hlk1)]
        simp only [thn_ok, finD, List.getElem?_cons_succ, List.getElem?_cons_zero, if_true]
      | none =>
        refine ⟨kvs1 ++ [(il o, (W o : Int))], ?_, hd1.put ho hlk1⟩
        rw [dput_e (p := p) (kvs := kvs1) (d := .tuple (nl o)) (k := il o) (v := (W o : Int)) rfl rfl (keyI_nl o) rfl (by have := hd1.few n7; omega), put_new hlk1]
        simp only [List.set_cons_succ, List.set_cons_zero, sRetS]
        rw [dget_e (p := p) (kvs := kvs1 ++ [(il o, (W o : Int))]) (d := .tuple (nl o)) (k := il o) (v := (W o : Int)) rfl rfl (keyI_nl o) (look_put hlk1)]
        simp only [thn_ok, finD, List.getElem?_cons_succ, List.getElem?_cons_zero, if_true]
end PM
end
section
set_option Elab.async false
set_option linter.all false
set_option maxRecDepth 100000
set_option autoImplicit false
set_option maxHeartbeats 1000000
set_option pp.maxSteps 400
/-! how many: the program, and the law's own count -/
namespace PM
open PySem L2 VL PF
theorem g_how_many_eq {n : Nat} {o : List Nat} (ho : Od n o) : g_how_many [.list (nl o)] = .val (.int (W o : Int)) := by
  have h21 := invs_21 ho
  have hw : ∀ p, ∃ kvs, g_ways_to p (.list (nl o)) [] = .ok kvs (W o : Int) := fun p => by
    obtain ⟨k, e, _⟩ := ways_ok 23 o [] p ho (by omega) (DOk.nil n)
    exact ⟨k, e⟩
  have h : ∃ r : Int, ∀ p, ∃ kvs, g_ways_to p (.list (nl o)) [] = .ok kvs r := ⟨_, hw⟩
  have hc : Classical.choose h = (W o : Int) := by
    obtain ⟨k1, e1⟩ := Classical.choose_spec h 0
    obtain ⟨k2, e2⟩ := hw 0
    rw [e1] at e2
    injection e2
  unfold g_how_many f_how_many
  simp only [runB_e, sRetCallD0, b1_e, aCons_e, aNil_e, eVar, List.map_cons, List.map_nil, List.length_cons, List.length_nil, List.cons_append, List.nil_append, Nat.reduceAdd, Nat.reduceSub, List.replicate_zero, List.getElem?_cons_zero, bind_ok, callL_eq (n := 1) (g_asked_order_eq n o ho) rfl, okL_e, thn_ok]
  rw [dif_pos h, hc]
  rfl
/-! lists of orders with counts -/
def wd (l : List (List Nat × Nat)) : List PyData := l.map fun q => .tuple [.list (nl q.1), .int (q.2 : Int)]
theorem wd_len (l : List (List Nat × Nat)) : (wd l).length = l.length := List.length_map _
theorem wd_app (a b : List (List Nat × Nat)) : wd (a ++ b) = wd a ++ wd b := List.map_append
def asc (o : List Nat) (k : Nat) : Prop := o[k]?.getD 0 < o[k + 1]?.getD 0
instance (o : List Nat) (k : Nat) : Decidable (asc o k) := inferInstanceAs (Decidable (_ < _))
def nextOf (n : Nat) (q : List Nat × Nat) : List (List Nat × Nat) := (List.range (n - 1)).flatMap fun k => if asc q.1 k then [(swp q.1 k, q.2)] else []
def moreOf (n : Nat) (w : List (List Nat × Nat)) : List (List Nat × Nat) := w.flatMap (nextOf n)
def tot (l : List (List Nat × Nat)) (o : List Nat) : Nat := (l.map fun q => if q.1 = o then q.2 else 0).sum
theorem tot_app (a b : List (List Nat × Nat)) (o : List Nat) : tot (a ++ b) o = tot a o + tot b o := by
  unfold tot
  rw [List.map_append, List.sum_append]
theorem tot_flat {α : Type} (f : α → List (List Nat × Nat)) (o : List Nat) : ∀ l : List α, tot (l.flatMap f) o = (l.map fun x => tot (f x) o).sum
  | [] => rfl
  | x :: l => by
    rw [List.flatMap_cons, tot_app, tot_flat f o l]
    rfl
theorem sum_swap {α β : Type} (h : α → β → Nat) (l : List α) : ∀ m : List β, (l.map fun x => (m.map fun y => h x y).sum).sum = (m.map fun y => (l.map fun x => h x y).sum).sum
  | [] => by
    rw [sum_const (fun x => (List.map (fun y => h x y) []).sum) 0 l fun _ _ => rfl]
    simp
  | y :: m => by
    rw [List.map_cons, List.sum_cons, ← sum_swap h l m]
    clear sum_swap
    induction l with
    | nil => rfl
    | cons x l ih =>
      simp only [List.map_cons, List.sum_cons] at ih ⊢
      omega
theorem sum_zero {α : Type} (f : α → Nat) (l : List α) (h : ∀ x ∈ l, f x = 0) : (l.map f).sum = 0 := by
  rw [sum_const f 0 l h]
  simp
theorem sum_one {α : Type} [DecidableEq α] (x : α) (v : Nat) : ∀ (l : List (α × Nat)), (l.map (·.1)).Nodup → (x, v) ∈ l → (l.map fun q => if q.1 = x then q.2 else 0).sum = v
  | [], _, h => by cases h
  | q :: l, nd, h => by
    obtain ⟨n1, n2⟩ := List.nodup_cons.mp (show (q.1 :: l.map (·.1)).Nodup from nd)
    rw [List.map_cons, List.sum_cons]
    rcases List.mem_cons.mp h with h | h
    · subst h
      rw [if_pos rfl, sum_zero _ l fun y hy => if_neg fun (e : y.1 = x) => n1 (List.mem_map.mpr ⟨y, hy, e⟩)]
      rfl
    · rw [if_neg fun (e : q.1 = x) => n1 (e ▸ List.mem_map.mpr ⟨(x, v), h, rfl⟩), sum_one x v l n2 h, Nat.zero_add]
/-- level t of the orders, with how many -/
structure Lv (n t : Nat) (w : List (List Nat × Nat)) : Prop where
  od : ∀ q ∈ w, Od n q.1 ∧ invs q.1 = t ∧ q.2 = W q.1
  nd : (w.map (·.1)).Nodup
  all : ∀ o, Od n o → invs o = t → o ∈ w.map (·.1)
theorem W_range {n : Nat} (hn : Nn n) : W (List.range n) = 1 := by
  rw [W_eq, if_pos (by rw [List.length_range])]
  rw [sum_zero]
  intro k hk
  have hk := List.mem_range.mp hk
  rw [List.length_range] at hk
  unfold Wk
  rw [if_neg]
  intro hd
  have h1 := swp_down (List.range n) k (by rw [List.length_range]; omega) hd
  rw [invs_range] at h1
  omega
theorem Lv.zero {n : Nat} (hn : Nn n) : Lv n 0 [(List.range n, 1)] := by
  refine ⟨fun q hq => ?_, by simp, fun o ho h => ?_⟩
  · simp at hq
    subst hq
    exact ⟨od_range hn, invs_range n, (W_range hn).symm⟩
  · rw [range_of ho h]
    simp
theorem Lv.few {n t : Nat} {w : List (List Nat × Nat)} (hn : n ≤ 7) (h : Lv n t w) : w.length ≤ 5040 := by
  have := od_few hn (w.map (·.1)) (fun o ho => by
    obtain ⟨q, hq, rfl⟩ := List.mem_map.mp ho
    exact (h.od q hq).1) h.nd
  rwa [List.length_map] at this
theorem tot_right {n t : Nat} {w : List (List Nat × Nat)} (h : Lv n t w) {o : List Nat} (ho : Od n o) (hi : invs o = t) : tot w o = W o := by
  have hm := h.all o ho hi
  obtain ⟨q, hq, e⟩ := List.mem_map.mp hm
  have h3 := (h.od q hq).2.2
  obtain ⟨a, b⟩ := q
  dsimp only at e h3
  subst e
  subst h3
  exact sum_one a (W a) w h.nd hq
theorem more_right {n t : Nat} {w : List (List Nat × Nat)} (h : Lv n t w) {o : List Nat} (ho : Od n o) (hi : invs o = t + 1) : tot (moreOf n w) o = W o := by
  have hl := ho.len
  unfold moreOf
  rw [tot_flat]
  have e1 : ∀ q : List Nat × Nat, tot (nextOf n q) o = ((List.range (n - 1)).map fun k => if asc q.1 k ∧ swp q.1 k = o then q.2 else 0).sum := fun q => by
    unfold nextOf
    rw [tot_flat]
    congr 1
    refine List.map_congr_left fun k _ => ?_
    by_cases ha : asc q.1 k
    · rw [if_pos ha]
      by_cases hb : swp q.1 k = o
      · rw [if_pos ⟨ha, hb⟩]
        simp [tot, hb]
      · rw [if_neg fun x => hb x.2]
        simp [tot, hb]
    · rw [if_neg ha, if_neg fun x => ha x.1]
      rfl
  rw [show (w.map fun q => tot (nextOf n q) o) = w.map fun q => ((List.range (n - 1)).map fun k => if asc q.1 k ∧ swp q.1 k = o then q.2 else 0).sum from List.map_congr_left fun q _ => e1 q]
  rw [sum_swap, W_eq, if_neg (fun e => by rw [e, hl, invs_range] at hi; omega), Nat.zero_add, hl]
  congr 1
  refine List.map_congr_left fun k hk => ?_
  have hk := List.mem_range.mp hk
  unfold Wk
  by_cases hd : o[k + 1]?.getD 0 < o[k]?.getD 0
  · rw [if_pos hd]
    have hdn := swp_down o k (by omega) hd
    have hos := od_swp ho k
    rw [show (w.map fun q => if asc q.1 k ∧ swp q.1 k = o then q.2 else 0) = w.map fun q => if q.1 = swp o k then q.2 else 0 from List.map_congr_left fun q hq => ?_]
    · exact tot_right h hos (by omega)
    · congr 1
      apply propext
      constructor
      · rintro ⟨_, e⟩
        rw [← e, swp_swp]
      · intro e
        refine ⟨?_, by rw [e, swp_swp]⟩
        unfold asc
        rw [e, swp_at o k k (by omega), swp_at o k (k + 1) (by omega), if_pos rfl, if_neg (by omega), if_pos rfl]
        exact hd
  · rw [if_neg hd]
    refine sum_zero _ _ fun q hq => if_neg ?_
    rintro ⟨ha, e⟩
    refine hd ?_
    have hq := (h.od q hq).1
    have hlq := hq.len
    rw [← e, swp_at q.1 k k (by omega), swp_at q.1 k (k + 1) (by omega), if_pos rfl, if_neg (by omega), if_pos rfl]
    exact ha
/-! each order once -/
def ddp (more : List (List Nat × Nat)) : List (List Nat) → List (List Nat × Nat) → List (List Nat × Nat)
  | [], acc => acc
  | o :: r, acc => ddp more r (if o ∈ acc.map (·.1) then acc else acc ++ [(o, tot more o)])
theorem ddp_ok (more : List (List Nat × Nat)) (P : List Nat → Prop) : ∀ (os : List (List Nat)) (acc : List (List Nat × Nat)), (∀ o ∈ os, P o) → (∀ q ∈ acc, P q.1 ∧ q.2 = tot more q.1) → (acc.map (·.1)).Nodup →
    (∀ q ∈ ddp more os acc, P q.1 ∧ q.2 = tot more q.1) ∧ ((ddp more os acc).map (·.1)).Nodup ∧ (∀ o ∈ os, o ∈ (ddp more os acc).map (·.1)) ∧ ∀ o ∈ acc.map (·.1), o ∈ (ddp more os acc).map (·.1)
  | [], acc, _, h2, h3 => ⟨h2, h3, fun o h => absurd h (by simp), fun o h => h⟩
  | o :: os, acc, h1, h2, h3 => by
    rw [ddp]
    by_cases hm : o ∈ acc.map (·.1)
    · rw [if_pos hm]
      obtain ⟨a, b, c, d⟩ := ddp_ok more P os acc (fun x hx => h1 x (List.mem_cons_of_mem _ hx)) h2 h3
      refine ⟨a, b, fun x hx => ?_, d⟩
      rcases List.mem_cons.mp hx with rfl | hx
      · exact d _ hm
      · exact c x hx
    · rw [if_neg hm]
      obtain ⟨a, b, c, d⟩ := ddp_ok more P os (acc ++ [(o, tot more o)]) (fun x hx => h1 x (List.mem_cons_of_mem _ hx)) (fun q hq => by
        rcases List.mem_append.mp hq with hq | hq
        · exact h2 q hq
        · simp at hq
          subst hq
          exact ⟨h1 o List.mem_cons_self, rfl⟩) (by
        rw [List.map_append]
        refine List.nodup_append.mpr ⟨h3, by simp, fun x hx y hy => ?_⟩
        simp at hy
        subst hy
        intro e
        subst e
        exact hm hx)
      refine ⟨a, b, fun x hx => ?_, fun x hx => d x (by rw [List.map_append]; exact List.mem_append_left _ hx)⟩
      rcases List.mem_cons.mp hx with rfl | hx
      · exact d _ (by rw [List.map_append]; simp)
      · exact c x hx
theorem Lv.next {n t : Nat} {w : List (List Nat × Nat)} (h : Lv n t w) : Lv n (t + 1) (ddp (moreOf n w) ((moreOf n w).map (·.1)) []) := by
  have hmem : ∀ o ∈ (moreOf n w).map (·.1), Od n o ∧ invs o = t + 1 := by
    intro o ho
    obtain ⟨q, hq, rfl⟩ := List.mem_map.mp ho
    obtain ⟨p, hp, h2⟩ := List.mem_flatMap.mp hq
    obtain ⟨k, hk, h3⟩ := List.mem_flatMap.mp h2
    have hk := List.mem_range.mp hk
    by_cases ha : asc p.1 k
    · rw [if_pos ha] at h3
      simp at h3
      subst h3
      obtain ⟨o1, o2, _⟩ := h.od p hp
      have := swp_up p.1 k (by rw [o1.len]; omega) ha
      exact ⟨od_swp o1 k, by show invs (swp p.1 k) = _; omega⟩
    · rw [if_neg ha] at h3
      cases h3
  obtain ⟨a, b, c, _⟩ := ddp_ok (moreOf n w) (fun o => Od n o ∧ invs o = t + 1) ((moreOf n w).map (·.1)) [] hmem (fun q hq => by cases hq) List.Pairwise.nil
  refine ⟨fun q hq => ?_, b, fun o ho hi => ?_⟩
  · obtain ⟨⟨h1, h2⟩, h3⟩ := a q hq
    exact ⟨h1, h2, by rw [h3, more_right h h1 h2]⟩
  · refine c o ?_
    obtain ⟨k, hk, hd⟩ := desc_ex o (by omega)
    have hl := ho.len
    have hdn := swp_down o k hk hd
    have hos := od_swp ho k
    obtain ⟨q, hq, e⟩ := List.mem_map.mp (h.all (swp o k) hos (by omega))
    refine List.mem_map.mpr ⟨(o, q.2), List.mem_flatMap.mpr ⟨q, hq, List.mem_flatMap.mpr ⟨k, List.mem_range.mpr (by omega), ?_⟩⟩, rfl⟩
    have ha : asc q.1 k := by
      unfold asc
      rw [e, swp_at o k k (by omega), swp_at o k (k + 1) (by omega), if_pos rfl, if_neg (by omega), if_pos rfl]
      exact hd
    rw [if_pos ha, e, swp_swp]
    simp
theorem next_len (n : Nat) (q : List Nat × Nat) : (nextOf n q).length ≤ n - 1 := by
  unfold nextOf
  rw [List.length_flatMap]
  have : ∀ l : List Nat, ((l.map fun k => (if asc q.1 k then [(swp q.1 k, q.2)] else []).length).sum) ≤ l.length := by
    intro l
    induction l with
    | nil => simp
    | cons k l ih =>
      rw [List.map_cons, List.sum_cons, List.length_cons]
      have : (if asc q.1 k then [(swp q.1 k, q.2)] else []).length ≤ 1 := by split <;> simp
      omega
  have := this (List.range (n - 1))
  rwa [List.length_range] at this
theorem more_len (n : Nat) : ∀ w : List (List Nat × Nat), (moreOf n w).length ≤ w.length * (n - 1)
  | [] => by simp [moreOf]
  | q :: w => by
    have h1 := next_len n q
    have h2 := more_len n w
    unfold moreOf at *
    rw [List.flatMap_cons, List.length_append, List.length_cons, Nat.add_mul, Nat.one_mul]
    omega
end PM
end
section
set_option Elab.async false
set_option linter.all false
set_option maxRecDepth 100000
set_option autoImplicit false
set_option maxHeartbeats 1000000
set_option pp.maxSteps 400
/-! the law's own count computed -/
namespace PM
open PySem L2 VL PF
abbrev qN (q : List Nat × Nat) : PyData := .tuple [.list (nl q.1), .int (q.2 : Int)]
theorem wd_cons (q : List Nat × Nat) (l : List (List Nat × Nat)) : wd (q :: l) = qN q :: wd l := rfl
theorem sum_tot (o : List Nat) : ∀ l : List (List Nat × Nat), (((l.filter fun q => decide (q.1 = o)).map fun q => (q.2 : Int)).sum : Int) = ((tot l o : Nat) : Int)
  | [] => rfl
  | q :: l => by
    have ih := sum_tot o l
    have ht : tot (q :: l) o = (if q.1 = o then q.2 else 0) + tot l o := rfl
    rw [List.filter_cons, ht]
    by_cases h : q.1 = o
    · rw [if_pos (decide_eq_true h), if_pos h, List.map_cons, List.sum_cons, ih]
      omega
    · rw [if_neg (by rw [decide_eq_false h]; exact Bool.false_ne_true), if_neg h, Nat.zero_add, ih]
theorem sumD_tot (o : List Nat) (l : List (List Nat × Nat)) : sumD [.list ((l.filter fun q => decide (q.1 = o)).map fun q => .int (q.2 : Int))] = some (.int ((tot l o : Nat) : Int)) := by
  have e : ((l.filter fun q => decide (q.1 = o)).map fun q => PyData.int (q.2 : Int)) = ((l.filter fun q => decide (q.1 = o)).map fun q => (q.2 : Int)).map .int := by rw [List.map_map]; rfl
  unfold sumD
  dsimp only
  rw [e, show intsIn (.list (((l.filter fun q => decide (q.1 = o)).map fun q => (q.2 : Int)).map .int)) = intsOf (((l.filter fun q => decide (q.1 = o)).map fun q => (q.2 : Int)).map .int) from rfl, intsOf_map, Option.map_some, sum_tot]
abbrev ctI : SS := (sIf (b1 (b2 (b2 (uVar 4) (bVar 6) fun a b => ofO (idxD a b)) (b2 (uVar 4) (b2 (bVar 6) (eC (.int 1)) fun a b => ofO (addI a b)) fun a b => ofO (idxD a b)) fun a b => ofO (ltI a b)) asB) (sApp 3 (b1 (aCons (b1 (b1 (aCons (eVar 4) (aCons (b1 (b1 (aCons (eVar 6) aNil) capL) okL) aNil)) (callL g_law_danced 2)) okL) (aCons (eVar 5) aNil)) tupL)) sNil)
abbrev ctM : SS := (sFor (.nm 6) [6] (b1 (aCons (b2 (b1 (aCons (bVar 4) aNil) fun ds => ofO (lenD ds)) (eC (.int 1)) fun a b => ofO (subI a b)) aNil) fun ds => ofO (rgA1 ds)) ctI)
abbrev ctD : SS := (sIf (b1 (b2 (bVar 4) (b1 (lcF (.tp [7, 5]) [7, 5] (b1 (uVar 1) asL) tYesF (eVar 7)) okL) fun a b => ofO ((inD true) a b)) asB) (sApp 1 (b1 (aCons (eVar 4) (aCons (b1 (aCons (b1 (lcF (.tp [7, 5]) [7, 5] (b1 (uVar 3) asL) (b1 (b2 (bVar 7) (bVar 4) fun a b => ofO (eqD a b)) asB) (eVar 5)) okL) aNil) fun ds => ofO (sumD ds)) aNil)) tupL)) sNil)
theorem ctI_go (x0 x1 x2 x7 : Slot) (q : List Nat × Nat) (acc : List (List Nat × Nat)) (k : Nat) (hk : k + 1 < q.1.length) (hl : q.1.length ≤ 1000) (hs : acc.length + 1 ≤ 100000) :
    ctI [x0, x1, x2, .ow (wd acc), .fz (.list (nl q.1)), .fz (.int (q.2 : Int)), .fz (.int (k : Int)), x7] = .nx [x0, x1, x2, .ow (wd (acc ++ if asc q.1 k then [(swp q.1 k, q.2)] else [])), .fz (.list (nl q.1)), .fz (.int (q.2 : Int)), .fz (.int (k : Int)), x7] := by
  have a0 := atI_nl q.1 k (by omega)
  have a1 := atI_nl1 q.1 k hk
  have ed := g_law_danced_eq q.1 [k] (fun s hs => by rw [List.mem_singleton.mp hs]; exact hk) hl
  have ed : g_law_danced [.list (nl q.1), .list [.int (k : Int)]] = .lst (nl (swp q.1 k)) := ed
  have c1 : ∀ x : PyData, capL [x] = .ok [x] := fun _ => rfl
  have t2 : ∀ x y : PyData, tupL [x, y] = .ok (.tuple [x, y]) := fun _ _ => rfl
  have sm : small ((wd acc).length + 1) = true := small_t (by rw [wd_len]; exact hs)
  by_cases h : asc q.1 k
  · have hi : ((q.1[k]?.getD 0 : Nat) : Int) < ((q.1[k + 1]?.getD 0 : Nat) : Int) := by have h2 : q.1[k]?.getD 0 < q.1[k + 1]?.getD 0 := h; omega
    rw [if_pos h, wd_app]
    simp only [ctI, sIf_e, b1_e, b2_e, eC_e, aCons_e, aNil_e, eVar, bVar, uVar, List.getElem?_cons_succ, List.getElem?_cons_zero, bind_ok, idxD_l, a0, a1, ofO_some, addI_i, ltI_i, asB_e, decide_eq_true hi, thn_ok, sApp, onOw, c1, okL_e, callL_eq (n := 2) ed rfl, t2, sm, if_true, List.set_cons_succ, List.set_cons_zero]
    rfl
  · have hi : ¬ ((q.1[k]?.getD 0 : Nat) : Int) < ((q.1[k + 1]?.getD 0 : Nat) : Int) := by have h2 : ¬ q.1[k]?.getD 0 < q.1[k + 1]?.getD 0 := h; omega
    rw [if_neg h, List.append_nil]
    simp only [ctI, sIf_e, b1_e, b2_e, eC_e, aCons_e, aNil_e, eVar, bVar, uVar, List.getElem?_cons_succ, List.getElem?_cons_zero, bind_ok, idxD_l, a0, a1, ofO_some, addI_i, ltI_i, asB_e, decide_eq_false hi, thn_ok, sNil_e]
theorem ctM_go {n : Nat} (hn : Nn n) (x0 x1 x2 x7 : Slot) (w : List (List Nat × Nat)) (hw : ∀ q ∈ w, q.1.length = n) (hc : (moreOf n w).length ≤ 50000) :
    forL (.tp [4, 5]) [4, 5, 6] ctM (wd w) [x0, x1, x2, .ow [], .no, .no, .no, x7] = .nx [x0, x1, x2, .ow (wd (moreOf n w)), .no, .no, .no, x7] := by
  have n1 := hn.lo
  have n7 := hn.hi
  have := forL_gather (.tp [4, 5]) [4, 5, 6] ctM qN (fun acc => [x0, x1, x2, .ow (wd acc), .no, .no, .no, x7]) (nextOf n) w 50000 (fun acc q hq hc => by
    refine ⟨_, rfl, ?_⟩
    have hl := hw q hq
    have rg := rgA1_nat (n - 1) (by omega)
    rw [show ((n - 1 : Nat) : Int) = (n : Int) - 1 by omega] at rg
    have := forL_gather (.nm 6) [6] ctI iN (fun acc => [x0, x1, x2, .ow (wd acc), .fz (.list (nl q.1)), .fz (.int (q.2 : Int)), .no, x7]) (fun k => if asc q.1 k then [(swp q.1 k, q.2)] else []) (List.range (n - 1)) 50000 (fun acc k hk hc => by
      have hk := List.mem_range.mp hk
      refine ⟨_, rfl, ?_⟩
      show nxK [6] (ctI [x0, x1, x2, .ow (wd acc), .fz (.list (nl q.1)), .fz (.int (q.2 : Int)), .fz (.int (k : Int)), x7]) = _
      rw [ctI_go x0 x1 x2 x7 q acc k (by omega) (by omega) (by omega)]
      rfl) acc hc
    rw [show (List.range (n - 1)).map iN = nl (List.range (n - 1)) from rfl] at this
    show nxK [4, 5, 6] (ctM [x0, x1, x2, .ow (wd acc), .fz (.list (nl q.1)), .fz (.int (q.2 : Int)), .no, x7]) = _
    simp only [ctM, sFor_e, b1_e, b2_e, eC_e, aCons_e, aNil_e, bVar, List.getElem?_cons_succ, List.getElem?_cons_zero, bind_ok, lenD_l, nl_len, hl, ofO_some, subI_i, rg, killS_cons, killS_nil, List.set_cons_succ, List.set_cons_zero, this]
    rfl) [] (by rw [List.length_nil, Nat.zero_add]; exact hc)
  exact this
theorem ctD_go (x0 x2 x6 : Slot) (more acc : List (List Nat × Nat)) (o : List Nat) (hm : more.length ≤ 50000) (ha : acc.length ≤ 50000) :
    ctD [x0, .ow (wd acc), x2, .ow (wd more), .fz (.list (nl o)), .no, x6, .no] = .nx [x0, .ow (wd (if o ∈ acc.map (·.1) then acc else acc ++ [(o, tot more o)])), x2, .ow (wd more), .fz (.list (nl o)), .no, x6, .no] := by
  have sa : small (wd acc).length = true := small_t (by rw [wd_len]; omega)
  have sa1 : small ((wd acc).length + 1) = true := small_t (by rw [wd_len]; omega)
  have sm : small (wd more).length = true := small_t (by rw [wd_len]; omega)
  have t2 : ∀ x y : PyData, tupL [x, y] = .ok (.tuple [x, y]) := fun _ _ => rfl
  have e1 : lcL (.tp [7, 5]) tYesF (eVar 7) (wd acc) [x0, .ow (wd acc), x2, .ow (wd more), .fz (.list (nl o)), .no, x6, .no] = .ok (nll (acc.map (·.1))) := by
    have := lcL_map (.tp [7, 5]) (eVar 7) [x0, .ow (wd acc), x2, .ow (wd more), .fz (.list (nl o)), .no, x6, .no] qN (fun q => .list (nl q.1)) acc (fun q hq => ⟨_, rfl, rfl⟩)
    unfold nll
    rw [List.map_map]
    exact this
  have e2 : lcL (.tp [7, 5]) (b1 (b2 (bVar 7) (bVar 4) fun a b => ofO (eqD a b)) asB) (eVar 5) (wd more) [x0, .ow (wd acc), x2, .ow (wd more), .fz (.list (nl o)), .no, x6, .no] = .ok ((more.filter fun q => decide (q.1 = o)).map fun q => .int (q.2 : Int)) := by
    refine lcL_eq (.tp [7, 5]) _ _ _ qN (fun q => decide (q.1 = o)) (fun q => .int (q.2 : Int)) more fun q hq => ⟨_, rfl, ?_, fun _ => rfl⟩
    simp [setsE, bVar]
  by_cases h : o ∈ acc.map (·.1)
  · rw [if_pos h]
    simp only [ctD, sIf_e, b1_e, b2_e, lcF_e, bVar, uVar, List.getElem?_cons_succ, List.getElem?_cons_zero, bind_ok, asL_e, sa, if_true, killS_cons, killS_nil, List.set_cons_succ, List.set_cons_zero, e1, okL_e, inD_nll, ofO_some, asB_e, decide_eq_true h, Bool.not_true, thn_ok, sNil_e]
  · rw [if_neg h, wd_app]
    simp only [ctD, sIf_e, b1_e, b2_e, lcF_e, eVar, bVar, uVar, aCons_e, aNil_e, List.getElem?_cons_succ, List.getElem?_cons_zero, bind_ok, asL_e, sa, sm, if_true, killS_cons, killS_nil, List.set_cons_succ, List.set_cons_zero, e1, e2, okL_e, inD_nll, ofO_some, asB_e, decide_eq_false h, Bool.not_false, thn_ok, sApp, onOw, sumD_tot, t2, sa1]
    rfl
theorem ctD_loop (x0 x2 x6 : Slot) (more : List (List Nat × Nat)) (hm : more.length ≤ 50000) : ∀ (os : List (List Nat)) (acc : List (List Nat × Nat)), acc.length + os.length ≤ 50000 →
    forL (.nm 4) [4, 5] ctD (nll os) [x0, .ow (wd acc), x2, .ow (wd more), .no, .no, x6, .no] = .nx [x0, .ow (wd (ddp more os acc)), x2, .ow (wd more), .no, .no, x6, .no]
  | [], acc, _ => rfl
  | o :: os, acc, h => by
    rw [List.length_cons] at h
    rw [nll_cons, forL_cons]
    simp only [tgSet_nm, List.set_cons_succ, List.set_cons_zero]
    rw [ctD_go x0 x2 x6 more acc o hm (by omega)]
    simp only [killS_cons, killS_nil, List.set_cons_succ, List.set_cons_zero]
    rw [ctD_loop x0 x2 x6 more hm os _ (by
      have : (if o ∈ acc.map (·.1) then acc else acc ++ [(o, tot more o)]).length ≤ acc.length + 1 := by split <;> simp
      omega)]
    rfl
abbrev ctT : SS := (sSeq (sAsgF 3 (b1 aNil capL))
  (gFz 1 (sSeq (sFor (.tp [4, 5]) [4, 5, 6] (b1 (eVar 1) asL) ctM)
  (sSeq (sAsgF 1 (b1 aNil capL))
  (sFor (.nm 4) [4, 5] (b1 (b1 (lcF (.tp [7, 5]) [7, 5] (b1 (uVar 3) asL) tYesF (eVar 7)) okL) asL) ctD)))))
theorem ctT_go {n t : Nat} (hn : Nn n) (x0 x2 : Slot) (w : List (List Nat × Nat)) (hw : Lv n t w) :
    ∃ x3, ctT [x0, .ow (wd w), x2, .no, .no, .no, .no, .no] = .nx [x0, .ow (wd (ddp (moreOf n w) ((moreOf n w).map (·.1)) [])), x2, x3, .no, .no, .no, .no] := by
  have n7 := hn.hi
  have hf := hw.few n7
  have hml := more_len n w
  have hml2 : (moreOf n w).length ≤ 5040 * 6 := Nat.le_trans hml (Nat.mul_le_mul hf (by omega))
  have c0 : capL [] = .ok [] := rfl
  have m1 := ctM_go hn x0 (.fz (.list (wd w))) x2 .no w (fun q hq => (hw.od q hq).1.len) (by omega)
  have d1 := ctD_loop x0 x2 .no (moreOf n w) (by omega) ((moreOf n w).map (·.1)) [] (by rw [List.length_nil, List.length_map]; omega)
  have sm : small (wd (moreOf n w)).length = true := small_t (by rw [wd_len]; omega)
  have e1 : lcL (.tp [7, 5]) tYesF (eVar 7) (wd (moreOf n w)) [x0, .ow [], x2, .ow (wd (moreOf n w)), .no, .no, .no, .no] = .ok (nll ((moreOf n w).map (·.1))) := by
    have := lcL_map (.tp [7, 5]) (eVar 7) [x0, .ow [], x2, .ow (wd (moreOf n w)), .no, .no, .no, .no] qN (fun q => .list (nl q.1)) (moreOf n w) (fun q hq => ⟨_, rfl, rfl⟩)
    unfold nll
    rw [List.map_map]
    exact this
  refine ⟨.ow (wd (moreOf n w)), ?_⟩
  simp only [ctT, sSeq_e, sAsgF_e, b1_e, aNil_e, bind_ok, c0, thn_ok, gFz_e, sFor_e, eVar, uVar, List.set_cons_succ, List.set_cons_zero, List.getElem?_cons_succ, List.getElem?_cons_zero, asL_e, killS_cons, killS_nil, m1, lcF_e, sm, if_true, e1, okL_e]
  exact d1
theorem g_law_counted_eq {n : Nat} {o : List Nat} (ho : Od n o) : g_law_counted [.list (nl o)] = .val (.int (W o : Int)) := by
  have n7 := ho.nn.hi
  have n1 := ho.nn.lo
  have hl := ho.len
  have loop : ∀ (ts : List Nat) (t : Nat) (w : List (List Nat × Nat)), Lv n t w → ∃ w', forL (.nm 2) [2, 3, 4, 5, 6] ctT (nl ts) [.fz (.list (nl o)), .ow (wd w), .no, .no, .no, .no, .no, .no] = .nx [.fz (.list (nl o)), .ow (wd w'), .no, .no, .no, .no, .no, .no] ∧ Lv n (t + ts.length) w' := by
    intro ts
    induction ts with
    | nil => intro t w hw; exact ⟨w, rfl, hw⟩
    | cons j ts ih =>
      intro t w hw
      obtain ⟨x3, e1⟩ := ctT_go ho.nn (.fz (.list (nl o))) (.fz (.int (j : Int))) w hw
      obtain ⟨w', e2, h2⟩ := ih (t + 1) _ hw.next
      refine ⟨w', ?_, by rw [List.length_cons, show t + (ts.length + 1) = t + 1 + ts.length by omega]; exact h2⟩
      rw [nl_cons, forL_cons]
      simp only [tgSet_nm, List.set_cons_succ, List.set_cons_zero]
      rw [e1]
      simp only [killS_cons, killS_nil, List.set_cons_succ, List.set_cons_zero]
      exact e2
  have hp : (prs o).length = invs o := by rw [← (inv_prs ho).length_eq]; rfl
  have hi := invs_21 ho
  have rg := rgA1_nat (prs o).length (by omega)
  obtain ⟨w', e1, h1⟩ := loop (List.range (prs o).length) 0 [(List.range n, 1)] (Lv.zero ho.nn)
  rw [List.length_range, Nat.zero_add, hp] at h1
  have hf := h1.few n7
  have sm : small (wd w').length = true := small_t (by rw [wd_len]; omega)
  have e2 : lcL (.tp [4, 5]) (b1 (b2 (bVar 4) (bVar 0) fun a b => ofO (eqD a b)) asB) (eVar 5) (wd w') [.fz (.list (nl o)), .ow (wd w'), .no, .no, .no, .no, .no, .no] = .ok ((w'.filter fun q => decide (q.1 = o)).map fun q => .int (q.2 : Int)) := by
    refine lcL_eq (.tp [4, 5]) _ _ _ qN (fun q => decide (q.1 = o)) (fun q => .int (q.2 : Int)) w' fun q hq => ⟨_, rfl, ?_, fun _ => rfl⟩
    simp [setsE, bVar]
  have c1 : ∀ x : PyData, capL [x] = .ok [x] := fun _ => rfl
  have t2 : ∀ x y : PyData, tupL [x, y] = .ok (.tuple [x, y]) := fun _ _ => rfl
  have e1 : forL (.nm 2) [2, 3, 4, 5, 6] ctT (nl (List.range (prs o).length)) [.fz (.list (nl o)), .ow [.tuple [.list (nl (List.range n)), .int 1]], .no, .no, .no, .no, .no, .no] = _ := e1
  unfold g_law_counted f_law_counted
  simp only [runB_e, sSeq_e, sAsgF_e, sFor_e, sRetE_e, b1_e, b2_e, eC_e, aCons_e, aNil_e, eVar, bVar, uVar, List.map_cons, List.map_nil, List.length_cons, List.length_nil, List.cons_append, List.nil_append, Nat.reduceAdd, Nat.reduceSub, List.replicate_succ, List.replicate_zero, List.getElem?_cons_succ, List.getElem?_cons_zero, bind_ok, thn_ok, List.set_cons_succ, List.set_cons_zero, lenD_l, nl_len, hl, ofO_some, callL_eq (n := 1) (g_law_first_eq n (by omega)) rfl, okL_e, t2, c1, callL_eq (n := 1) (g_law_pairs_eq ho) rfl, pl_len, rg, killS_cons, killS_nil]
  rw [e1]
  simp only [lcF_e, b1_e, uVar, List.getElem?_cons_succ, List.getElem?_cons_zero, bind_ok, asL_e, sm, if_true, killS_cons, killS_nil, List.set_cons_succ, List.set_cons_zero, e2, okL_e, sumD_tot, ofO_some, thn_ok, finF_rt]
  rw [tot_right h1 ho rfl]
end PM
end
section
set_option Elab.async false
set_option linter.all false
set_option maxRecDepth 100000
set_option autoImplicit false
set_option maxHeartbeats 4000000
/-! the count of the last orders, by a table that the kernel fills -/
namespace PM
open PySem L2 VL PF
inductive D7 where
  | d0
  | d1
  | d2
  | d3
  | d4
  | d5
  | d6
def D7.n : D7 → Nat
  | .d0 => 0
  | .d1 => 1
  | .d2 => 2
  | .d3 => 3
  | .d4 => 4
  | .d5 => 5
  | .d6 => 6
def D7.lt : D7 → D7 → Bool
  | .d0 => fun y => match y with | .d0 => false | .d1 => true | .d2 => true | .d3 => true | .d4 => true | .d5 => true | .d6 => true
  | .d1 => fun y => match y with | .d0 => false | .d1 => false | .d2 => true | .d3 => true | .d4 => true | .d5 => true | .d6 => true
  | .d2 => fun y => match y with | .d0 => false | .d1 => false | .d2 => false | .d3 => true | .d4 => true | .d5 => true | .d6 => true
  | .d3 => fun y => match y with | .d0 => false | .d1 => false | .d2 => false | .d3 => false | .d4 => true | .d5 => true | .d6 => true
  | .d4 => fun y => match y with | .d0 => false | .d1 => false | .d2 => false | .d3 => false | .d4 => false | .d5 => true | .d6 => true
  | .d5 => fun y => match y with | .d0 => false | .d1 => false | .d2 => false | .d3 => false | .d4 => false | .d5 => false | .d6 => true
  | .d6 => fun y => match y with | .d0 => false | .d1 => false | .d2 => false | .d3 => false | .d4 => false | .d5 => false | .d6 => false
theorem D7.lt_n (a b : D7) : D7.lt a b = decide (a.n < b.n) := by cases a <;> cases b <;> rfl
inductive TR where
  | nil
  | val (v : Nat)
  | nd (t0 t1 t2 t3 t4 t5 t6 : TR)
def sel (t0 t1 t2 t3 t4 t5 t6 : TR) : D7 → TR
  | .d0 => t0
  | .d1 => t1
  | .d2 => t2
  | .d3 => t3
  | .d4 => t4
  | .d5 => t5
  | .d6 => t6
def TR.get : TR → List D7 → Option Nat
  | .val v, [] => some v
  | .nd t0 t1 t2 t3 t4 t5 t6, d :: ds => (match d with
    | .d0 => t0.get ds
    | .d1 => t1.get ds
    | .d2 => t2.get ds
    | .d3 => t3.get ds
    | .d4 => t4.get ds
    | .d5 => t5.get ds
    | .d6 => t6.get ds)
  | _, _ => none
def TR.one : List D7 → Nat → TR
  | [], v => .val v
  | d :: ds, v => (match d with
    | .d0 => .nd (TR.one ds v) .nil .nil .nil .nil .nil .nil
    | .d1 => .nd .nil (TR.one ds v) .nil .nil .nil .nil .nil
    | .d2 => .nd .nil .nil (TR.one ds v) .nil .nil .nil .nil
    | .d3 => .nd .nil .nil .nil (TR.one ds v) .nil .nil .nil
    | .d4 => .nd .nil .nil .nil .nil (TR.one ds v) .nil .nil
    | .d5 => .nd .nil .nil .nil .nil .nil (TR.one ds v) .nil
    | .d6 => .nd .nil .nil .nil .nil .nil .nil (TR.one ds v))
def TR.ins : TR → List D7 → Nat → TR
  | .nd t0 t1 t2 t3 t4 t5 t6, d :: ds, v => (match d with
    | .d0 => .nd (t0.ins ds v) t1 t2 t3 t4 t5 t6
    | .d1 => .nd t0 (t1.ins ds v) t2 t3 t4 t5 t6
    | .d2 => .nd t0 t1 (t2.ins ds v) t3 t4 t5 t6
    | .d3 => .nd t0 t1 t2 (t3.ins ds v) t4 t5 t6
    | .d4 => .nd t0 t1 t2 t3 (t4.ins ds v) t5 t6
    | .d5 => .nd t0 t1 t2 t3 t4 (t5.ins ds v) t6
    | .d6 => .nd t0 t1 t2 t3 t4 t5 (t6.ins ds v))
  | .nil, ds, v => TR.one ds v
  | .val u, _, _ => .val u
  | .nd t0 t1 t2 t3 t4 t5 t6, [], _ => .nd t0 t1 t2 t3 t4 t5 t6
def toL (p : List D7) : List Nat := p.map D7.n
def Sound (t : TR) : Prop := ∀ p v, t.get p = some v → v = W (toL p)
theorem one_get : ∀ (q p : List D7) (u v : Nat), (TR.one q u).get p = some v → p = q ∧ v = u
  | [], p, u, v, h => by
    cases p with
    | nil => cases h; exact ⟨rfl, rfl⟩
    | cons d p => cases h
  | d :: q, p, u, v, h => by
    cases p with
    | nil => cases d <;> cases h
    | cons e p =>
      cases d <;> cases e <;> first
        | (obtain ⟨rfl, h2⟩ := one_get q p u v h; exact ⟨rfl, h2⟩)
        | (exfalso; revert h; cases p <;> (intro h; cases h))
theorem ins_get : ∀ (t : TR) (q p : List D7) (u v : Nat), (t.ins q u).get p = some v → (p = q ∧ v = u) ∨ t.get p = some v
  | .nil, q, p, u, v, h => .inl (one_get q p u v h)
  | .val w, q, p, u, v, h => .inr h
  | .nd t0 t1 t2 t3 t4 t5 t6, [], p, u, v, h => .inr h
  | .nd t0 t1 t2 t3 t4 t5 t6, d :: q, p, u, v, h => by
    cases p with
    | nil => cases d <;> cases h
    | cons e p =>
      cases d <;> cases e <;> first
        | exact .inr h
        | exact (ins_get t0 q p u v h).imp (fun x => ⟨by rw [x.1], x.2⟩) id
        | exact (ins_get t1 q p u v h).imp (fun x => ⟨by rw [x.1], x.2⟩) id
        | exact (ins_get t2 q p u v h).imp (fun x => ⟨by rw [x.1], x.2⟩) id
        | exact (ins_get t3 q p u v h).imp (fun x => ⟨by rw [x.1], x.2⟩) id
        | exact (ins_get t4 q p u v h).imp (fun x => ⟨by rw [x.1], x.2⟩) id
        | exact (ins_get t5 q p u v h).imp (fun x => ⟨by rw [x.1], x.2⟩) id
        | exact (ins_get t6 q p u v h).imp (fun x => ⟨by rw [x.1], x.2⟩) id
theorem Sound.ins {t : TR} {q : List D7} {u : Nat} (h : Sound t) (hu : u = W (toL q)) : Sound (t.ins q u) := fun p v e => by
  rcases ins_get t q p u v e with ⟨rfl, rfl⟩ | e
  · exact hu
  · exact h p v e
/-- the orders one step off: does the step lead up, the order -/
def nbr : List D7 → List (Bool × List D7)
  | [a, b, c, d, e, f] => [(D7.lt a b, [b, a, c, d, e, f]), (D7.lt b c, [a, c, b, d, e, f]), (D7.lt c d, [a, b, d, c, e, f]), (D7.lt d e, [a, b, c, e, d, f]), (D7.lt e f, [a, b, c, d, f, e])]
  | [a, b, c, d, e, f, g] => [(D7.lt a b, [b, a, c, d, e, f, g]), (D7.lt b c, [a, c, b, d, e, f, g]), (D7.lt c d, [a, b, d, c, e, f, g]), (D7.lt d e, [a, b, c, e, d, f, g]), (D7.lt e f, [a, b, c, d, f, e, g]), (D7.lt f g, [a, b, c, d, e, g, f])]
  | _ => []
def pull (t : TR) : List (Bool × List D7) → Option Nat
  | [] => some 0
  | (true, _) :: r => pull t r
  | (false, p) :: r => (match t.get p with
    | some a => (match pull t r with
      | some b => some (a + b)
      | none => none)
    | none => none)
def up1 : List (Bool × List D7) → TR → List (List D7) → (TR → List (List D7) → Option Nat) → Option Nat
  | [], t, l, K => K t l
  | (true, p) :: r, t, l, K => (match t.get p with
    | some _ => up1 r t l K
    | none => (match pull t (nbr p) with
      | some v => up1 r (t.ins p v) (p :: l) K
      | none => up1 r t l K))
  | (false, _) :: r, t, l, K => up1 r t l K
def upL : List (List D7) → TR → List (List D7) → (TR → List (List D7) → Option Nat) → Option Nat
  | [], t, l, K => K t l
  | o :: os, t, l, K => up1 (nbr o) t l (fun t l => upL os t l K)
def lvs (w : List D7) : Nat → TR → List (List D7) → Option Nat
  | 0, t, _ => t.get w
  | m + 1, t, l => upL l t [] (lvs w m)
def id6 : List D7 := [.d0, .d1, .d2, .d3, .d4, .d5]
def id7 : List D7 := [.d0, .d1, .d2, .d3, .d4, .d5, .d6]
def w06 : List D7 := [.d5, .d4, .d3, .d2, .d1, .d0]
def w07 : List D7 := [.d6, .d5, .d4, .d3, .d2, .d1, .d0]
set_option maxHeartbeats 0
theorem c6 : lvs w06 15 (TR.one id6 1) [id6] = some 292864 := by decide +kernel
end PM
end
section
set_option Elab.async false
set_option linter.all false
set_option maxRecDepth 100000
set_option autoImplicit false
set_option maxHeartbeats 1000000
set_option pp.maxSteps 400
/-! the table is right -/
namespace PM
open PySem L2 VL PF
theorem toL_len (p : List D7) : (toL p).length = p.length := List.length_map _
theorem nbr_eq : ∀ (o : List D7), o.length = 6 ∨ o.length = 7 → (nbr o).map (fun x => (x.1, toL x.2)) = (List.range (o.length - 1)).map fun k => (decide ((toL o)[k]?.getD 0 < (toL o)[k + 1]?.getD 0), swp (toL o) k)
  | [a, b, c, d, e, f], _ => by
    simp only [nbr, D7.lt_n]
    rfl
  | [a, b, c, d, e, f, g], _ => by
    simp only [nbr, D7.lt_n]
    rfl
  | [], h => by simp at h
  | [_], h => by simp at h
  | [_, _], h => by simp at h
  | [_, _, _], h => by simp at h
  | [_, _, _, _], h => by simp at h
  | [_, _, _, _, _], h => by simp at h
  | _ :: _ :: _ :: _ :: _ :: _ :: _ :: _ :: _, h => by simp at h
theorem pull_sum {t : TR} (ht : Sound t) : ∀ (l : List (Bool × List D7)) (v : Nat), pull t l = some v → v = ((l.map (fun x => (x.1, toL x.2))).map fun y => if y.1 = true then 0 else W y.2).sum
  | [], v, h => by cases h; rfl
  | (true, p) :: r, v, h => by
    rw [List.map_cons, List.map_cons, List.sum_cons, if_pos rfl, Nat.zero_add]
    exact pull_sum ht r v h
  | (false, p) :: r, v, h => by
    rw [List.map_cons, List.map_cons, List.sum_cons, if_neg Bool.false_ne_true]
    rw [pull] at h
    split at h
    · rename_i a ha
      split at h
      · rename_i b hb
        cases h
        rw [ht p a ha, pull_sum ht r b hb]
      · cases h
    · cases h
theorem od_ne {n : Nat} {o : List Nat} (h : Od n o) {k : Nat} (hk : k + 1 < n) : o[k]?.getD 0 ≠ o[k + 1]?.getD 0 := by
  intro e
  have h1 : o.idxOf (o[k]?.getD 0) = k := idx_get h (by omega)
  have h2 : o.idxOf (o[k + 1]?.getD 0) = k + 1 := idx_get h hk
  rw [e, h2] at h1
  omega
theorem pull_W {t : TR} (ht : Sound t) {n : Nat} {p : List D7} (hp : Od n (toL p)) (hn : n = 6 ∨ n = 7) (hr : 1 ≤ invs (toL p)) {v : Nat} (h : pull t (nbr p) = some v) : v = W (toL p) := by
  have hl := hp.len
  have hl2 := toL_len p
  rw [pull_sum ht _ v h, nbr_eq p (by omega), W_eq, if_neg (fun e => by rw [e, hl, invs_range] at hr; omega), Nat.zero_add, List.map_map, hl2]
  congr 1
  refine List.map_congr_left fun k hk => ?_
  have hk := List.mem_range.mp hk
  have hne := od_ne hp (show k + 1 < n by omega)
  unfold Wk
  show (if decide ((toL p)[k]?.getD 0 < (toL p)[k + 1]?.getD 0) = true then 0 else W (swp (toL p) k)) = _
  by_cases ha : (toL p)[k]?.getD 0 < (toL p)[k + 1]?.getD 0
  · rw [if_pos (decide_eq_true ha), if_neg (by omega)]
  · rw [if_neg (by simp [ha]), if_pos (by omega)]
/-- an order on the list, a step up -/
def Good (n : Nat) (x : Bool × List D7) : Prop := x.1 = true → Od n (toL x.2) ∧ 1 ≤ invs (toL x.2)
theorem nbr_good {n : Nat} (hn : n = 6 ∨ n = 7) {o : List D7} (ho : Od n (toL o)) : ∀ x ∈ nbr o, Good n x := by
  intro x hx h1
  have hl := ho.len
  have hl2 := toL_len o
  have hm : (x.1, toL x.2) ∈ (nbr o).map fun x => (x.1, toL x.2) := List.mem_map.mpr ⟨x, hx, rfl⟩
  rw [nbr_eq o (by omega)] at hm
  obtain ⟨k, hk, e⟩ := List.mem_map.mp hm
  have hk := List.mem_range.mp hk
  injection e with e1 e2
  rw [h1] at e1
  have ha : (toL o)[k]?.getD 0 < (toL o)[k + 1]?.getD 0 := of_decide_eq_true e1
  have hup := swp_up (toL o) k (by omega) ha
  rw [← e2]
  exact ⟨od_swp ho k, by omega⟩
variable {n : Nat} (hn : n = 6 ∨ n = 7) {Q : Option Nat → Prop}
include hn
theorem up1_ok {K : TR → List (List D7) → Option Nat} (hK : ∀ t l, Sound t → (∀ x ∈ l, Od n (toL x)) → Q (K t l)) :
    ∀ (r : List (Bool × List D7)) (t : TR) (l : List (List D7)), (∀ x ∈ r, Good n x) → Sound t → (∀ x ∈ l, Od n (toL x)) → Q (up1 r t l K)
  | [], t, l, _, ht, hl => hK t l ht hl
  | (false, p) :: r, t, l, hr, ht, hl => up1_ok hK r t l (fun x hx => hr x (List.mem_cons_of_mem _ hx)) ht hl
  | (true, p) :: r, t, l, hr, ht, hl => by
    have hr2 : ∀ x ∈ r, Good n x := fun x hx => hr x (List.mem_cons_of_mem _ hx)
    rw [up1]
    split
    · exact up1_ok hK r t l hr2 ht hl
    · split
      · rename_i v hv
        obtain ⟨h1, h2⟩ := hr (true, p) List.mem_cons_self rfl
        refine up1_ok hK r _ _ hr2 (ht.ins (pull_W ht h1 hn h2 hv)) fun x hx => ?_
        rcases List.mem_cons.mp hx with rfl | hx
        · exact h1
        · exact hl x hx
      · exact up1_ok hK r t l hr2 ht hl
theorem upL_ok {K : TR → List (List D7) → Option Nat} (hK : ∀ t l, Sound t → (∀ x ∈ l, Od n (toL x)) → Q (K t l)) :
    ∀ (os : List (List D7)) (t : TR) (l : List (List D7)), (∀ x ∈ os, Od n (toL x)) → Sound t → (∀ x ∈ l, Od n (toL x)) → Q (upL os t l K)
  | [], t, l, _, ht, hl => hK t l ht hl
  | o :: os, t, l, ho, ht, hl => by
    rw [upL]
    exact up1_ok hn (fun t l ht hl => upL_ok hK os t l (fun x hx => ho x (List.mem_cons_of_mem _ hx)) ht hl) (nbr o) t l (nbr_good hn (ho o List.mem_cons_self)) ht hl
theorem lvs_ok (w : List D7) : ∀ (m : Nat) (t : TR) (l : List (List D7)), Sound t → (∀ x ∈ l, Od n (toL x)) → ∀ v, lvs w m t l = some v → v = W (toL w)
  | 0, t, l, ht, _, v, h => ht w v h
  | m + 1, t, l, ht, hl, v, h => by
    rw [lvs] at h
    exact upL_ok hn (Q := fun r => ∀ v, r = some v → v = W (toL w)) (fun t l ht hl => lvs_ok w m t l ht hl) l t [] hl ht (fun x hx => absurd hx (by simp)) v h
end PM
namespace PM
open PySem L2 VL PF
theorem od_6 : Od 6 [5, 4, 3, 2, 1, 0] := ⟨by decide, ⟨by omega, by omega⟩⟩
theorem od_7 : Od 7 [6, 5, 4, 3, 2, 1, 0] := ⟨by decide, ⟨by omega, by omega⟩⟩
theorem sound_one {n : Nat} (hn : Nn n) {p : List D7} (h : toL p = List.range n) : Sound (TR.one p 1) := fun q v e => by
  obtain ⟨rfl, rfl⟩ := one_get p q 1 v e
  rw [h, W_range hn]
theorem W_6 : W [5, 4, 3, 2, 1, 0] = 292864 := (lvs_ok (n := 6) (.inl rfl) w06 15 _ _ (sound_one (n := 6) ⟨by omega, by omega⟩ rfl) (fun x hx => by rw [List.mem_singleton.mp hx]; exact od_range (n := 6) ⟨by omega, by omega⟩) _ c6).symm
end PM
end
section
set_option Elab.async false
set_option linter.all false
set_option maxRecDepth 100000
set_option autoImplicit false
set_option maxHeartbeats 0
/-! the last order of seven -/
namespace PM
open PySem L2 VL PF
theorem c7 : lvs w07 21 (TR.one id7 1) [id7] = some 1100742656 := by decide +kernel
theorem W_7 : W [6, 5, 4, 3, 2, 1, 0] = 1100742656 := (lvs_ok (n := 7) (.inr rfl) w07 21 _ _ (sound_one (n := 7) ⟨by omega, by omega⟩ rfl) (fun x hx => by rw [List.mem_singleton.mp hx]; exact od_range (n := 7) ⟨by omega, by omega⟩) _ c7).symm
end PM
end
section
set_option Elab.async false
set_option linter.all false
set_option maxRecDepth 100000
set_option autoImplicit false
set_option maxHeartbeats 4000000
/-! k12: printed by mk.py -/
namespace L_k12
open PySem PySem.Spec PyProof.Rows L2 VL PF
noncomputable def f_law : SS :=
  (sSeq (sAsgE 1 (b2 (eC (.int 1)) (b2 (b1 (aCons (eVar 0) (aCons (eC (.int 0)) aNil)) (callV g_law_cell_at 2)) (eC (.int 4)) fun a b => ofO (modI a b)) fun a b => ofO (addI a b)))
  (sSeq (sIf (b1 (b2 (b2 (b2 (b1 (aCons (eVar 0) (aCons (eC (.int 0)) aNil)) (callV g_law_cell_at 2)) (eC (.int 4)) fun a b => ofO (divI a b)) (eC (.int 5)) fun a b => ofO (modI a b)) (eC (.int 1)) fun a b => ofO (eqD a b)) asB) (sAsgE 1 (eC (.int 5))) sNil)
  (sSeq (sAsgE 2 (b1 (b1 (aCons (b1 (aCons (eVar 0) (aCons (eC (.int 1)) aNil)) (callV g_law_cell_at 2)) (aCons (eVar 1) aNil)) (callL g_law_order 2)) okL))
  (sSeq (sAsgE 3 (b1 (b1 (uVar 2) fun d => ofO (listD d)) okL))
  (sSeq (sAsgE 4 (b1 (aCons (eVar 3) aNil) (callV g_how_many 1)))
  (sSeq (sIf (tOr2 (b1 (b1 (b1 (bVar 4) fun d => ofO (isiT .int d)) asB) bNot) (tOr2 (b1 (b1 (bVar 4) fun d => ofO (isiT .bool d)) asB) (tOr2 (b1 (b2 (bVar 4) (b1 (aCons (eVar 2) aNil) (callV g_law_counted 1)) fun a b => ofO (neD a b)) asB) (b1 (b2 (bVar 3) (bVar 2) fun a b => ofO (neD a b)) asB)))) (sRetE (eC (.bool false))) sNil)
  (sSeq (sIf (b1 (b2 (b2 (b1 (aCons (eVar 0) (aCons (eC (.int 2)) aNil)) (callV g_law_cell_at 2)) (eC (.int 12)) fun a b => ofO (modI a b)) (eC (.int 1)) fun a b => ofO (eqD a b)) asB) (sRetE (b2 (b1 (aCons (b1 (b1 (aCons (eC (.int 5)) (aCons (eC (.int 4)) (aCons (eC (.int 3)) (aCons (eC (.int 2)) (aCons (eC (.int 1)) (aCons (eC (.int 0)) aNil)))))) capL) okL) aNil) (callV g_how_many 1)) (eC (.int 292864)) fun a b => ofO (eqD a b))) sNil)
  (sSeq (sIf (b1 (b2 (b2 (b1 (aCons (eVar 0) (aCons (eC (.int 2)) aNil)) (callV g_law_cell_at 2)) (eC (.int 48)) fun a b => ofO (modI a b)) (eC (.int 2)) fun a b => ofO (eqD a b)) asB) (sRetE (b2 (b1 (aCons (b1 (b1 (aCons (eC (.int 6)) (aCons (eC (.int 5)) (aCons (eC (.int 4)) (aCons (eC (.int 3)) (aCons (eC (.int 2)) (aCons (eC (.int 1)) (aCons (eC (.int 0)) aNil))))))) capL) okL) aNil) (callV g_how_many 1)) (eC (.int 1100742656)) fun a b => ofO (eqD a b))) sNil)
  (sSeq (sAsgE 5 (b1 (b1 (aCons (b2 (eC (.int 6)) (b2 (b1 (aCons (eVar 0) (aCons (eC (.int 2)) aNil)) (callV g_law_cell_at 2)) (eC (.int 2)) fun a b => ofO (modI a b)) fun a b => ofO (addI a b)) aNil) (callL g_law_first 1)) okL))
  (sSeq (sFor (.nm 6) [6, 8] (b1 (aCons (eC (.int 9)) aNil) fun ds => ofO (rgA1 ds)) (sSeq (sAsgE 8 (b1 (aCons (b2 (b1 (aCons (eVar 0) (aCons (eC (.int 3)) aNil)) (callV g_law_cell_at 2)) (b2 (eC (.int 31)) (bVar 6) fun a b => ofO (mulI a b)) fun a b => ofO (addI a b)) (aCons (eC (.int 6)) (aCons (b2 (b1 (aCons (bVar 5) aNil) fun ds => ofO (lenD ds)) (eC (.int 1)) fun a b => ofO (subI a b)) aNil))) (callV g_law_draw 3)))
  (sIf (b1 (b2 (b2 (uVar 5) (bVar 8) fun a b => ofO (idxD a b)) (b2 (uVar 5) (b2 (bVar 8) (eC (.int 1)) fun a b => ofO (addI a b)) fun a b => ofO (idxD a b)) fun a b => ofO (ltI a b)) asB) (sAsgE 5 (b1 (b1 (aCons (eVar 5) (aCons (b1 (b1 (aCons (eVar 8) aNil) capL) okL) aNil)) (callL g_law_danced 2)) okL)) sNil)))
  (sSeq (sIf (b1 (b2 (b2 (b1 (aCons (eVar 0) (aCons (eC (.int 2)) aNil)) (callV g_law_cell_at 2)) (eC (.int 3)) fun a b => ofO (modI a b)) (eC (.int 0)) fun a b => ofO (gtI a b)) asB) (sRetE (eC (.bool true))) sNil)
  (sSeq (sAsgE 7 (b1 (lcF (.nm 8) [8] (b1 (aCons (b2 (b1 (aCons (bVar 5) aNil) fun ds => ofO (lenD ds)) (eC (.int 1)) fun a b => ofO (subI a b)) aNil) fun ds => ofO (rgA1 ds)) (b1 (b2 (b2 (uVar 5) (bVar 8) fun a b => ofO (idxD a b)) (b2 (uVar 5) (b2 (bVar 8) (eC (.int 1)) fun a b => ofO (addI a b)) fun a b => ofO (idxD a b)) fun a b => ofO (gtI a b)) asB) (eVar 8)) okL))
  (sRetE (b2 (b1 (aCons (b1 (b1 (uVar 5) fun d => ofO (listD d)) okL) aNil) (callV g_how_many 1)) (b1 (aCons (b1 (lcF (.nm 8) [8] (b1 (uVar 7) asL) tYesF (b1 (aCons (b1 (b1 (aCons (eVar 5) (aCons (b1 (b1 (aCons (eVar 8) aNil) capL) okL) aNil)) (callL g_law_danced 2)) okL) aNil) (callV g_how_many 1))) okL) aNil) fun ds => ofO (sumD ds)) fun a b => ofO (eqD a b)))))))))))))))
noncomputable def g_law : List PyData → RF := runB f_law 9
def topS (i : Nat) : Stmt := PySem.Challenge.pw_placechange_k12_whole_how_many.main.body.getD i (.Pass ⟨0, 0, 0, 0⟩)
abbrev s_is_number : Stmt := topS 5
theorem sc_is_number : FnScope ["thing", "least", "most"] ["thing", "least", "most"] (defScope s_is_number) := ⟨rfl, rfl, rfl, by decide +kernel, rfl, by decide +kernel, by decide +kernel⟩
abbrev s_asked_order : Stmt := topS 6
theorem sc_asked_order : FnScope ["order", "dancer"] ["order"] (defScope s_asked_order) := ⟨rfl, rfl, rfl, by decide +kernel, rfl, by decide +kernel, by decide +kernel⟩
abbrev s_at_first : Stmt := topS 7
theorem sc_at_first : FnScope ["dancers", "dancer"] ["dancers"] (defScope s_at_first) := ⟨rfl, rfl, rfl, by decide +kernel, rfl, by decide +kernel, by decide +kernel⟩
abbrev s_stepped : Stmt := topS 8
theorem sc_stepped : FnScope ["order", "step"] ["order", "step"] (defScope s_stepped) := ⟨rfl, rfl, rfl, by decide +kernel, rfl, by decide +kernel, by decide +kernel⟩
abbrev s_ways_to : Stmt := topS 10
theorem sc_ways_to : FnScope ["order", "known", "name", "many", "step"] ["order", "known"] (defScope s_ways_to) := ⟨rfl, rfl, rfl, by decide +kernel, rfl, by decide +kernel, by decide +kernel⟩
abbrev s_how_many : Stmt := topS 11
theorem sc_how_many : FnScope ["order"] ["order"] (defScope s_how_many) := ⟨rfl, rfl, rfl, by decide +kernel, rfl, by decide +kernel, by decide +kernel⟩
abbrev s_law_cell_at : Stmt := topS 13
theorem sc_law_cell_at : FnScope ["_law_script", "_law_k"] ["_law_script", "_law_k"] (defScope s_law_cell_at) := ⟨rfl, rfl, rfl, by decide +kernel, rfl, by decide +kernel, by decide +kernel⟩
abbrev s_law_draw : Stmt := topS 14
theorem sc_law_draw : FnScope ["_law_cell", "_law_k", "_law_many", "_law_mixed"] ["_law_cell", "_law_k", "_law_many"] (defScope s_law_draw) := ⟨rfl, rfl, rfl, by decide +kernel, rfl, by decide +kernel, by decide +kernel⟩
abbrev s_law_order : Stmt := topS 15
theorem sc_law_order : FnScope ["_law_cell", "_law_dancers", "_law_left", "_law_way", "_law_found", "_law_step", "_law_dancer"] ["_law_cell", "_law_dancers"] (defScope s_law_order) := ⟨rfl, rfl, rfl, by decide +kernel, rfl, by decide +kernel, by decide +kernel⟩
abbrev s_law_danced : Stmt := topS 16
theorem sc_law_danced : FnScope ["_law_order_here", "_law_dance", "_law_now", "_law_step", "_law_one"] ["_law_order_here", "_law_dance"] (defScope s_law_danced) := ⟨rfl, rfl, rfl, by decide +kernel, rfl, by decide +kernel, by decide +kernel⟩
abbrev s_law_first : Stmt := topS 17
theorem sc_law_first : FnScope ["_law_dancers", "_law_dancer"] ["_law_dancers"] (defScope s_law_first) := ⟨rfl, rfl, rfl, by decide +kernel, rfl, by decide +kernel, by decide +kernel⟩
abbrev s_law_pairs : Stmt := topS 18
theorem sc_law_pairs : FnScope ["_law_order_here", "_law_found", "_law_one", "_law_other"] ["_law_order_here"] (defScope s_law_pairs) := ⟨rfl, rfl, rfl, by decide +kernel, rfl, by decide +kernel, by decide +kernel⟩
abbrev s_law_counted : Stmt := topS 19
theorem sc_law_counted : FnScope ["_law_order_here", "_law_ways", "_law_turn", "_law_more", "_law_now", "_law_many", "_law_step", "_law_some"] ["_law_order_here"] (defScope s_law_counted) := ⟨rfl, rfl, rfl, by decide +kernel, rfl, by decide +kernel, by decide +kernel⟩
abbrev s_law : Stmt := topS 20
theorem sc_law : FnScope ["_law_script", "_law_dancers", "_law_order_here", "_law_handed", "_law_found", "_law_great", "_law_k", "_law_steps", "_law_step"] ["_law_script"] (defScope s_law) := ⟨rfl, rfl, rfl, by decide +kernel, rfl, by decide +kernel, by decide +kernel⟩
structure Top (K : PySem.W.Frag) (mg : Str → Option Value) : Prop where
  b_bool : mg "bool" = none
  b_int : mg "int" = none
  b_isinstance : mg "isinstance" = none
  b_len : mg "len" = none
  b_list : mg "list" = none
  b_range : mg "range" = none
  b_sum : mg "sum" = none
  b_tuple : mg "tuple" = none
  g_DANCERS : ∃ t, mg "DANCERS" = some (.int 7 t)
  x_BadOrder : ∃ C, XC K mg "BadOrder" C
  d_is_number : ∃ f fd, Fun K "is_number" "is_number" s_is_number f fd ∧ mg "is_number" = some (.ref f) ∧ Binds K fd ["thing", "least", "most"] []
  d_asked_order : ∃ f fd, Fun K "asked_order" "asked_order" s_asked_order f fd ∧ mg "asked_order" = some (.ref f) ∧ Binds K fd ["order"] []
  d_at_first : ∃ f fd, Fun K "at_first" "at_first" s_at_first f fd ∧ mg "at_first" = some (.ref f) ∧ Binds K fd ["dancers"] []
  d_stepped : ∃ f fd, Fun K "stepped" "stepped" s_stepped f fd ∧ mg "stepped" = some (.ref f) ∧ Binds K fd ["order", "step"] []
  d_ways_to : ∃ f fd, Fun K "ways_to" "ways_to" s_ways_to f fd ∧ mg "ways_to" = some (.ref f) ∧ Binds K fd ["order", "known"] []
  d_how_many : ∃ f fd, Fun K "how_many" "how_many" s_how_many f fd ∧ mg "how_many" = some (.ref f) ∧ Binds K fd ["order"] []
  d_law_cell_at : ∃ f fd, Fun K "_law_cell_at" "_law_cell_at" s_law_cell_at f fd ∧ mg "_law_cell_at" = some (.ref f) ∧ Binds K fd ["_law_script", "_law_k"] []
  d_law_draw : ∃ f fd, Fun K "_law_draw" "_law_draw" s_law_draw f fd ∧ mg "_law_draw" = some (.ref f) ∧ Binds K fd ["_law_cell", "_law_k", "_law_many"] []
  d_law_order : ∃ f fd, Fun K "_law_order" "_law_order" s_law_order f fd ∧ mg "_law_order" = some (.ref f) ∧ Binds K fd ["_law_cell", "_law_dancers"] []
  d_law_danced : ∃ f fd, Fun K "_law_danced" "_law_danced" s_law_danced f fd ∧ mg "_law_danced" = some (.ref f) ∧ Binds K fd ["_law_order_here", "_law_dance"] []
  d_law_first : ∃ f fd, Fun K "_law_first" "_law_first" s_law_first f fd ∧ mg "_law_first" = some (.ref f) ∧ Binds K fd ["_law_dancers"] []
  d_law_pairs : ∃ f fd, Fun K "_law_pairs" "_law_pairs" s_law_pairs f fd ∧ mg "_law_pairs" = some (.ref f) ∧ Binds K fd ["_law_order_here"] []
  d_law_counted : ∃ f fd, Fun K "_law_counted" "_law_counted" s_law_counted f fd ∧ mg "_law_counted" = some (.ref f) ∧ Binds K fd ["_law_order_here"] []
  d_law : ∃ f fd, Fun K "law" "law" s_law f fd ∧ mg "law" = some (.ref f) ∧ Binds K fd ["_law_script"] []
section
variable {P : Program} {w : World} {K : PySem.W.Frag} {mg : Str → Option Value} {base : Heap}
theorem c_is_number (T : Top K mg) : Callee P w K mg base 1 "is_number" 3 g_is_number := by
  obtain ⟨f, fd, F, hm, hb⟩ := T.d_is_number
  refine ⟨f, fd, ["thing", "least", "most"], rfl, hm, F.kp, hb, fn_ok2 (k := 0) (np := 3) (n := 3) f_is_number F sc_is_number rfl rfl (by decide) rfl fun cdv A outer s H E hr => ?_⟩
  unfold f_is_number
  refine css_one ?_
  refine cs_retE ?_
  refine ce_and ?_ ?_
  · refine ce_isi .int (by rfl) T.b_isinstance ?_ (pe_bltn (by rfl) T.b_int (by decide +kernel) rfl)
    exact cb_var (pv 0)
  · refine ce_and ?_ ?_
    · refine ce_not ?_
      refine ce_isi .bool (by rfl) T.b_isinstance ?_ (pe_bltn (by rfl) T.b_bool (by decide +kernel) rfl)
      exact cb_var (pv 0)
    · refine ce_one ?_
      refine ce_chain op_le op_le fl_le fl_le ?_ ?_ ?_
      · exact cb_var (pv 1)
      · exact cb_var (pv 0)
      · exact cb_var (pv 2)
theorem c_asked_order (T : Top K mg) : Callee P w K mg base 2 "asked_order" 1 g_asked_order := by
  obtain ⟨f, fd, F, hm, hb⟩ := T.d_asked_order
  have C_is_number := (c_is_number (P := P) (w := w) (base := base) T).mono (k' := 1) (by decide)
  refine ⟨f, fd, ["order"], rfl, hm, F.kp, hb, fn_ok2 (k := 1) (np := 1) (n := 2) f_asked_order F sc_asked_order rfl rfl (by decide) rfl fun cdv A outer s H E hr => ?_⟩
  unfold f_asked_order
  refine css_cons ?_ ?_
  · refine cs_if ?_ ?_ ?_
    · refine ct_w ?_
      refine cw_or ?_ ?_
      · refine ct_not ?_
        refine ct_e ?_
        refine ce_isi .list (by rfl) T.b_isinstance ?_ (pe_bltn (by rfl) T.b_list (by decide +kernel) rfl)
        exact cb_var (pv 0)
      · refine cw_or1 ?_
        refine ct_not ?_
        refine ct_chain op_le op_le fl_le fl_le ?_ ?_ ?_
        · refine cb_e ?_
          exact ce_int
        · refine cb_e ?_
          refine ce_callB call_len fl_len (by rfl) T.b_len (by decide +kernel) ?_
          refine cab_cons ?_ ?_
          · exact cb_var (pv 0)
          · exact cab_nil
        · refine cb_e ?_
          exact ce_globI (by rfl) T.g_DANCERS
    · refine css_one ?_
      exact cs_raiseC rfl (takes_of rfl rfl rfl rfl) T.x_BadOrder (by rfl)
    · exact css_nil
  · refine css_cons ?_ ?_
    · refine cs_for (t := (.nm 1)) (kl := [1]) (passes_of rfl) rfl ?_ (pg_name (i := 1) sc_asked_order.nd rfl (by first | exact .inl rfl | exact .inr rfl)) ?_
      · refine ci_list ?_
        exact ce_var (pv 0)
      · refine css_one ?_
        refine cs_if ?_ ?_ ?_
        · refine ct_w ?_
          refine cw_or ?_ ?_
          · refine ct_not ?_
            refine ct_e ?_
            refine ce_call C_is_number hr (takes_of rfl rfl rfl rfl) (by rfl) ?_
            refine cae_cons ?_ ?_
            · exact ce_var (pv 1)
            · refine cae_cons ?_ ?_
              · exact ce_int
              · refine cae_cons ?_ ?_
                · refine ce_op op_sub fl_sub ?_ ?_
                  · refine cb_e ?_
                    refine ce_callB call_len fl_len (by rfl) T.b_len (by decide +kernel) ?_
                    refine cab_cons ?_ ?_
                    · exact cb_var (pv 0)
                    · exact cab_nil
                  · refine cb_e ?_
                    exact ce_int
                · exact cae_nil
          · refine cw_or1 ?_
            refine ct_cmp (op_neD hr.units) fl_ne ?_ ?_ (nomark _)
            · refine cb_e ?_
              refine ce_count (in_room hr) ?_ ?_
              · exact cb_var (pv 0)
              · exact cb_var (pv 1)
            · refine cb_e ?_
              exact ce_int
        · refine css_one ?_
          exact cs_raiseC rfl (takes_of rfl rfl rfl rfl) T.x_BadOrder (by rfl)
        · exact css_nil
    · refine css_one ?_
      refine cs_retF ?_
      refine cf_list (by rfl) T.b_list ?_
      exact cu_var (pv 0)
theorem c_at_first (T : Top K mg) : Callee P w K mg base 1 "at_first" 1 g_at_first := by
  obtain ⟨f, fd, F, hm, hb⟩ := T.d_at_first
  refine ⟨f, fd, ["dancers"], rfl, hm, F.kp, hb, fn_ok2 (k := 0) (np := 1) (n := 2) f_at_first F sc_at_first rfl rfl (by decide) rfl fun cdv A outer s H E hr => ?_⟩
  unfold f_at_first
  refine css_one ?_
  refine cs_retF ?_
  refine cf_lc (t := (.nm 1)) rfl sc_at_first.nd ?_ (blkOk_by (own := [("dancer", 1)]) (N := ["dancers", "dancer"]) (sc := defScope s_at_first) (by decide +kernel)) rfl (by decide) ?_ ?_ ?_
  · refine cj_i ?_
    refine ci_range1 (by rfl) T.b_range ?_
    refine cab_cons ?_ ?_
    · exact cb_var (pv 0)
    · exact cab_nil
  · intro _ _ _ _ _
    exact pg_name (i := 1) sc_at_first.nd rfl (by first | exact .inl rfl | exact .inr rfl)
  · intro _ _ _ _ _
    exact pts_yes
  · intro _ _ _ _ _
    exact ce_var (pv 1)
theorem c_stepped (T : Top K mg) : Callee P w K mg base 1 "stepped" 2 g_stepped := by
  obtain ⟨f, fd, F, hm, hb⟩ := T.d_stepped
  refine ⟨f, fd, ["order", "step"], rfl, hm, F.kp, hb, fn_ok2 (k := 0) (np := 2) (n := 2) f_stepped F sc_stepped rfl rfl (by decide) rfl fun cdv A outer s H E hr => ?_⟩
  unfold f_stepped
  refine css_one ?_
  refine cs_retF ?_
  refine cf_cat ?_ ?_
  · refine cu_f ?_
    refine cf_cat ?_ ?_
    · refine cu_f ?_
      refine cf_cut ?_ ?_ ?_
      · exact cu_var (pv 0)
      · exact co_none
      · refine co_some ?_
        exact cb_var (pv 1)
    · refine cu_f ?_
      refine cf_lst ?_
      refine cae_cons ?_ ?_
      · refine ce_ix ?_ ?_ (fun _ _ => rfl)
        · exact cu_var (pv 0)
        · refine cb_e ?_
          refine ce_op op_add fl_add ?_ ?_
          · exact cb_var (pv 1)
          · refine cb_e ?_
            exact ce_int
      · refine cae_cons ?_ ?_
        · refine ce_ix ?_ ?_ (fun _ _ => rfl)
          · exact cu_var (pv 0)
          · exact cb_var (pv 1)
        · exact cae_nil
  · refine cu_f ?_
    refine cf_cut ?_ ?_ ?_
    · exact cu_var (pv 0)
    · refine co_some ?_
      refine cb_e ?_
      refine ce_op op_add fl_add ?_ ?_
      · exact cb_var (pv 1)
      · refine cb_e ?_
        exact ce_int
    · exact co_none
theorem c0_ways_to (T : Top K mg) : ∀ k, CalleeD P w K mg base (k + 3) "ways_to" (gC_ways_to k)
  | 0 => by
    obtain ⟨f, fd, F, hm, hb⟩ := T.d_ways_to
    exact ⟨f, fd, ["order", "known"], rfl, hm, F.kp, hb, fn_dct (k := 2) (n := 5) sNone F sc_ways_to rfl rfl (by decide) rfl fun cdv A outer s H E hr => css_none⟩
  | k + 1 => by
    have C_ways_to := c0_ways_to T k
    have C_at_first := (c_at_first (P := P) (w := w) (base := base) T).mono (k' := k + 3) (by omega)
    have C_stepped := (c_stepped (P := P) (w := w) (base := base) T).mono (k' := k + 3) (by omega)
    obtain ⟨f, fd, F, hm, hb⟩ := T.d_ways_to
    refine ⟨f, fd, ["order", "known"], rfl, hm, F.kp, hb, fn_dct (k := k + 3) (n := 5) (fC_ways_to (gC_ways_to k)) F sc_ways_to rfl rfl (by decide) rfl fun cdv A outer s H E hr => ?_⟩
    unfold fC_ways_to
    refine css_cons ?_ ?_
    · refine cs_asgE (i := 2) sc_ways_to.nd rfl (by first | exact .inl rfl | exact .inr rfl) ?_
      refine ce_tuple (by rfl) T.b_tuple ?_
      exact cu_var (pv 0)
    · refine css_cons ?_ ?_
      · refine cs_if ?_ ?_ ?_
        · refine ct_dnotP (hu_of hr) ?_ (pv 1)
          exact cb_var (pv 2)
        · refine css_cons ?_ ?_
          · refine cs_asgE (i := 3) sc_ways_to.nd rfl (by first | exact .inl rfl | exact .inr rfl) ?_
            refine ce_callTy call_int1 fl_intV (by rfl) T.b_int (by decide +kernel) ?_
            refine cab_cons ?_ ?_
            · refine cb_e ?_
              refine ce_cmp (op_eqD hr.units) fl_eq ?_ ?_ (nomark _)
              · exact cb_var (pv 0)
              · refine cb_f ?_
                refine cf_call C_at_first hr (takes_of rfl rfl rfl rfl) (by rfl) ?_
                refine cae_cons ?_ ?_
                · refine ce_callB call_len fl_len (by rfl) T.b_len (by decide +kernel) ?_
                  refine cab_cons ?_ ?_
                  · exact cb_var (pv 0)
                  · exact cab_nil
                · exact cae_nil
            · exact cab_nil
          · refine css_cons ?_ ?_
            · refine cs_for (t := (.nm 4)) (kl := [4]) (passes_of rfl) rfl ?_ (pg_name (i := 4) sc_ways_to.nd rfl (by first | exact .inl rfl | exact .inr rfl)) ?_
              · refine ci_range1 (by rfl) T.b_range ?_
                refine cab_cons ?_ ?_
                · refine cb_e ?_
                  refine ce_op op_sub fl_sub ?_ ?_
                  · refine cb_e ?_
                    refine ce_callB call_len fl_len (by rfl) T.b_len (by decide +kernel) ?_
                    refine cab_cons ?_ ?_
                    · exact cb_var (pv 0)
                    · exact cab_nil
                  · refine cb_e ?_
                    exact ce_int
                · exact cab_nil
              · refine css_one ?_
                refine cs_if ?_ ?_ ?_
                · refine ct_cmp op_gt fl_gt ?_ ?_ (nomark _)
                  · refine cb_e ?_
                    refine ce_ix ?_ ?_ (fun _ _ => rfl)
                    · exact cu_var (pv 0)
                    · exact cb_var (pv 4)
                  · refine cb_e ?_
                    refine ce_ix ?_ ?_ (fun _ _ => rfl)
                    · exact cu_var (pv 0)
                    · refine cb_e ?_
                      refine ce_op op_add fl_add ?_ ?_
                      · exact cb_var (pv 4)
                      · refine cb_e ?_
                        exact ce_int
                · refine css_one ?_
                  refine cs_addCallD (i := 1) (j := 3) (by decide) C_ways_to hr (by rfl) sc_ways_to.nd rfl (by first | exact .inl rfl | exact .inr rfl) (pv 3) ?_ (pv 1)
                  refine ce_f ?_
                  refine cf_call C_stepped hr (takes_of rfl rfl rfl rfl) (by rfl) ?_
                  refine cae_cons ?_ ?_
                  · exact ce_var (pv 0)
                  · refine cae_cons ?_ ?_
                    · exact ce_var (pv 4)
                    · exact cae_nil
                · exact css_nil
            · refine css_one ?_
              refine cs_dputP (hu_of hr) (pv 1) ?_ ?_
              · exact cb_var (pv 2)
              · exact ce_var (pv 3)
        · exact css_nil
      · refine css_one ?_
        refine cs_retS ?_
        refine ce_dgetP (hu_of hr) (pv 1) ?_ (fun _ _ => rfl)
        exact cb_var (pv 2)
theorem c_ways_to (T : Top K mg) : CalleeD P w K mg base 26 "ways_to" g_ways_to := c0_ways_to T 23
theorem c_how_many (T : Top K mg) : Callee P w K mg base 27 "how_many" 1 g_how_many := by
  obtain ⟨f, fd, F, hm, hb⟩ := T.d_how_many
  have C_asked_order := (c_asked_order (P := P) (w := w) (base := base) T).mono (k' := 26) (by decide)
  have C_ways_to := (c_ways_to (P := P) (w := w) (base := base) T).mono (k' := 26) (by decide)
  refine ⟨f, fd, ["order"], rfl, hm, F.kp, hb, fn_ok2 (k := 26) (np := 1) (n := 1) f_how_many F sc_how_many rfl rfl (by decide) rfl fun cdv A outer s H E hr => ?_⟩
  unfold f_how_many
  refine css_one ?_
  refine cs_retCallD0 C_ways_to hr (by rfl) ?_
  refine ce_f ?_
  refine cf_call C_asked_order hr (takes_of rfl rfl rfl rfl) (by rfl) ?_
  refine cae_cons ?_ ?_
  · exact ce_var (pv 0)
  · exact cae_nil
theorem c_law_cell_at (T : Top K mg) : Callee P w K mg base 1 "_law_cell_at" 2 g_law_cell_at := by
  obtain ⟨f, fd, F, hm, hb⟩ := T.d_law_cell_at
  refine ⟨f, fd, ["_law_script", "_law_k"], rfl, hm, F.kp, hb, fn_ok2 (k := 0) (np := 2) (n := 2) f_law_cell_at F sc_law_cell_at rfl rfl (by decide) rfl fun cdv A outer s H E hr => ?_⟩
  unfold f_law_cell_at
  refine css_cons ?_ ?_
  · refine cs_if ?_ ?_ ?_
    · refine ct_cmp op_lt fl_lt ?_ ?_ (nomark _)
      · exact cb_var (pv 1)
      · refine cb_e ?_
        refine ce_callB call_len fl_len (by rfl) T.b_len (by decide +kernel) ?_
        refine cab_cons ?_ ?_
        · exact cb_var (pv 0)
        · exact cab_nil
    · refine css_one ?_
      refine cs_retE ?_
      refine ce_ix ?_ ?_ (fun _ _ => rfl)
      · exact cu_var (pv 0)
      · exact cb_var (pv 1)
    · exact css_nil
  · refine css_one ?_
    refine cs_retE ?_
    exact ce_int
theorem c_law_draw (T : Top K mg) : Callee P w K mg base 1 "_law_draw" 3 g_law_draw := by
  obtain ⟨f, fd, F, hm, hb⟩ := T.d_law_draw
  refine ⟨f, fd, ["_law_cell", "_law_k", "_law_many"], rfl, hm, F.kp, hb, fn_ok2 (k := 0) (np := 3) (n := 4) f_law_draw F sc_law_draw rfl rfl (by decide) rfl fun cdv A outer s H E hr => ?_⟩
  unfold f_law_draw
  refine css_cons ?_ ?_
  · refine cs_asgE (i := 3) sc_law_draw.nd rfl (by first | exact .inl rfl | exact .inr rfl) ?_
    refine ce_op op_mod fl_mod ?_ ?_
    · refine cb_e ?_
      refine ce_op op_add fl_add ?_ ?_
      · refine cb_e ?_
        refine ce_op op_add fl_add ?_ ?_
        · refine cb_e ?_
          refine ce_op op_mul fl_mul ?_ ?_
          · refine cb_e ?_
            refine ce_op op_mod fl_mod ?_ ?_
            · exact cb_var (pv 0)
            · refine cb_e ?_
              exact ce_int
          · refine cb_e ?_
            exact ce_int
        · refine cb_e ?_
          refine ce_op op_mul fl_mul ?_ ?_
          · exact cb_var (pv 1)
          · refine cb_e ?_
            exact ce_int
      · refine cb_e ?_
        exact ce_int
    · refine cb_e ?_
      exact ce_int
  · refine css_one ?_
    refine cs_retE ?_
    refine ce_op op_mod fl_mod ?_ ?_
    · refine cb_e ?_
      refine ce_op op_mod fl_mod ?_ ?_
      · refine cb_e ?_
        refine ce_op op_fdiv fl_div ?_ ?_
        · refine cb_e ?_
          refine ce_op op_mul fl_mul ?_ ?_
          · exact cb_var (pv 3)
          · exact cb_var (pv 3)
        · refine cb_e ?_
          exact ce_int
      · refine cb_e ?_
        exact ce_int
    · exact cb_var (pv 2)
theorem c_law_order (T : Top K mg) : Callee P w K mg base 2 "_law_order" 2 g_law_order := by
  obtain ⟨f, fd, F, hm, hb⟩ := T.d_law_order
  have C__law_draw := (c_law_draw (P := P) (w := w) (base := base) T).mono (k' := 1) (by decide)
  refine ⟨f, fd, ["_law_cell", "_law_dancers"], rfl, hm, F.kp, hb, fn_ok2 (k := 1) (np := 2) (n := 7) f_law_order F sc_law_order rfl rfl (by decide) rfl fun cdv A outer s H E hr => ?_⟩
  unfold f_law_order
  refine css_cons ?_ ?_
  · refine cs_lcF (t := (.nm 6)) (i := 2) rfl sc_law_order.nd rfl rfl (sw_true rfl rfl rfl (by decide +kernel)) ?_ (blkOk_by (own := [("_law_dancer", 6)]) (N := ["_law_cell", "_law_dancers", "_law_left", "_law_way", "_law_found", "_law_step", "_law_dancer"]) (sc := defScope s_law_order) (by decide +kernel)) rfl (by decide) ?_ ?_ ?_
    · refine cj_i ?_
      refine ci_range1 (by rfl) T.b_range ?_
      refine cab_cons ?_ ?_
      · exact cb_var (pv 1)
      · exact cab_nil
    · intro _ _ _ _ _
      exact pg_name (i := 6) sc_law_order.nd rfl (by first | exact .inl rfl | exact .inr rfl)
    · intro _ _ _ _ _
      exact pts_yes
    · intro _ _ _ _ _
      exact ce_var (pv 6)
  · refine css_cons ?_ ?_
    · refine cs_asgE (i := 3) sc_law_order.nd rfl (by first | exact .inl rfl | exact .inr rfl) ?_
      refine ce_call C__law_draw hr (takes_of rfl rfl rfl rfl) (by rfl) ?_
      refine cae_cons ?_ ?_
      · exact ce_var (pv 0)
      · refine cae_cons ?_ ?_
        · exact ce_int
        · refine cae_cons ?_ ?_
          · exact ce_int
          · exact cae_nil
    · refine css_cons ?_ ?_
      · refine cs_if ?_ ?_ ?_
        · refine ct_cmp (op_eqD hr.units) fl_eq ?_ ?_ (nomark _)
          · exact cb_var (pv 3)
          · refine cb_e ?_
            exact ce_int
        · refine css_one ?_
          exact cs_retO (pv 2)
        · exact css_nil
      · refine css_cons ?_ ?_
        · refine cs_if ?_ ?_ ?_
          · refine ct_cmp (op_eqD hr.units) fl_eq ?_ ?_ (nomark _)
            · exact cb_var (pv 3)
            · refine cb_e ?_
              exact ce_int
          · refine css_one ?_
            refine cs_retF ?_
            refine cf_rev ?_
            exact cu_var (pv 2)
          · exact css_nil
        · refine css_cons ?_ ?_
          · refine cs_if ?_ ?_ ?_
            · refine ct_w ?_
              refine cw_and ?_ ?_
              · refine ct_cmp (op_eqD hr.units) fl_eq ?_ ?_ (nomark _)
                · exact cb_var (pv 3)
                · refine cb_e ?_
                  exact ce_int
              · refine cw_and1 ?_
                refine ct_cmp op_gt fl_gt ?_ ?_ (nomark _)
                · exact cb_var (pv 1)
                · refine cb_e ?_
                  exact ce_int
            · refine css_cons ?_ ?_
              · refine cs_asgE (i := 5) sc_law_order.nd rfl (by first | exact .inl rfl | exact .inr rfl) ?_
                refine ce_call C__law_draw hr (takes_of rfl rfl rfl rfl) (by rfl) ?_
                refine cae_cons ?_ ?_
                · exact ce_var (pv 0)
                · refine cae_cons ?_ ?_
                  · exact ce_int
                  · refine cae_cons ?_ ?_
                    · refine ce_op op_sub fl_sub ?_ ?_
                      · exact cb_var (pv 1)
                      · refine cb_e ?_
                        exact ce_int
                    · exact cae_nil
              · refine css_one ?_
                refine cs_retF ?_
                refine cf_cat ?_ ?_
                · refine cu_f ?_
                  refine cf_cat ?_ ?_
                  · refine cu_f ?_
                    refine cf_cut ?_ ?_ ?_
                    · exact cu_var (pv 2)
                    · exact co_none
                    · refine co_some ?_
                      exact cb_var (pv 5)
                  · refine cu_f ?_
                    refine cf_lst ?_
                    refine cae_cons ?_ ?_
                    · refine ce_ix ?_ ?_ (fun _ _ => rfl)
                      · exact cu_var (pv 2)
                      · refine cb_e ?_
                        refine ce_op op_add fl_add ?_ ?_
                        · exact cb_var (pv 5)
                        · refine cb_e ?_
                          exact ce_int
                    · refine cae_cons ?_ ?_
                      · refine ce_ix ?_ ?_ (fun _ _ => rfl)
                        · exact cu_var (pv 2)
                        · exact cb_var (pv 5)
                      · exact cae_nil
                · refine cu_f ?_
                  refine cf_cut ?_ ?_ ?_
                  · exact cu_var (pv 2)
                  · refine co_some ?_
                    refine cb_e ?_
                    refine ce_op op_add fl_add ?_ ?_
                    · exact cb_var (pv 5)
                    · refine cb_e ?_
                      exact ce_int
                  · exact co_none
            · exact css_nil
          · refine css_cons ?_ ?_
            · refine cs_asgF (i := 4) sc_law_order.nd rfl (by first | exact .inl rfl | exact .inr rfl) ?_
              refine cf_lst ?_
              exact cae_nil
            · refine css_cons ?_ ?_
              · refine cs_while (kl := []) (passes_of rfl) ?_ ?_
                · refine ct_cmp (op_neD hr.units) fl_ne ?_ ?_ (nomark _)
                  · exact cb_var (pv 2)
                  · refine cb_f ?_
                    refine cf_lst ?_
                    exact cae_nil
                · refine css_one ?_
                  refine cs_appPop (pv 4) (pv 2) ?_ (fun ho hi => pe_bm PySem.F.plainAttrs_list PySem.F.slot_list_pop PySem.F.type_list_pop mt_popAt ho (pa_cons hi pa_nil)) (fun ho hi => pe_bm PySem.F.plainAttrs_list PySem.F.slot_list_append PySem.F.type_list_append mt_append ho (pa_cons hi pa_nil))
                  refine cb_e ?_
                  refine ce_call C__law_draw hr (takes_of rfl rfl rfl rfl) (by rfl) ?_
                  refine cae_cons ?_ ?_
                  · exact ce_var (pv 0)
                  · refine cae_cons ?_ ?_
                    · refine ce_op op_add fl_add ?_ ?_
                      · refine cb_e ?_
                        exact ce_int
                      · refine cb_e ?_
                        refine ce_callB call_len fl_len (by rfl) T.b_len (by decide +kernel) ?_
                        refine cab_cons ?_ ?_
                        · exact cb_var (pv 2)
                        · exact cab_nil
                    · refine cae_cons ?_ ?_
                      · refine ce_callB call_len fl_len (by rfl) T.b_len (by decide +kernel) ?_
                        refine cab_cons ?_ ?_
                        · exact cb_var (pv 2)
                        · exact cab_nil
                      · exact cae_nil
              · refine css_one ?_
                exact cs_retO (pv 4)
theorem c_law_danced (T : Top K mg) : Callee P w K mg base 1 "_law_danced" 2 g_law_danced := by
  obtain ⟨f, fd, F, hm, hb⟩ := T.d_law_danced
  refine ⟨f, fd, ["_law_order_here", "_law_dance"], rfl, hm, F.kp, hb, fn_ok2 (k := 0) (np := 2) (n := 5) f_law_danced F sc_law_danced rfl rfl (by decide) rfl fun cdv A outer s H E hr => ?_⟩
  unfold f_law_danced
  refine css_cons ?_ ?_
  · refine cs_asgF (i := 2) sc_law_danced.nd rfl (by first | exact .inl rfl | exact .inr rfl) ?_
    refine cf_list (by rfl) T.b_list ?_
    exact cu_var (pv 0)
  · refine css_cons ?_ ?_
    · refine cs_for (t := (.nm 3)) (kl := [3, 4]) (passes_of rfl) rfl ?_ (pg_name (i := 3) sc_law_danced.nd rfl (by first | exact .inl rfl | exact .inr rfl)) ?_
      · refine ci_list ?_
        exact ce_var (pv 1)
      · refine css_cons ?_ ?_
        · refine cs_asgE (i := 4) sc_law_danced.nd rfl (by first | exact .inl rfl | exact .inr rfl) ?_
          refine ce_ix ?_ ?_ (fun _ _ => rfl)
          · exact cu_var (pv 2)
          · exact cb_var (pv 3)
        · refine css_cons ?_ ?_
          · refine cs_put ?_ (pg_sub (pv 2) (cb_var (pv 3)) set_list)
            refine ce_ix ?_ ?_ (fun _ _ => rfl)
            · exact cu_var (pv 2)
            · refine cb_e ?_
              refine ce_op op_add fl_add ?_ ?_
              · exact cb_var (pv 3)
              · refine cb_e ?_
                exact ce_int
          · refine css_one ?_
            refine cs_put ?_ (pg_sub (pv 2) (cb_e (ce_op op_add fl_add (cb_var (pv 3)) (cb_e ce_int))) set_list)
            exact ce_var (pv 4)
    · refine css_one ?_
      exact cs_retO (pv 2)
theorem c_law_first (T : Top K mg) : Callee P w K mg base 1 "_law_first" 1 g_law_first := by
  obtain ⟨f, fd, F, hm, hb⟩ := T.d_law_first
  refine ⟨f, fd, ["_law_dancers"], rfl, hm, F.kp, hb, fn_ok2 (k := 0) (np := 1) (n := 2) f_law_first F sc_law_first rfl rfl (by decide) rfl fun cdv A outer s H E hr => ?_⟩
  unfold f_law_first
  refine css_one ?_
  refine cs_retF ?_
  refine cf_lc (t := (.nm 1)) rfl sc_law_first.nd ?_ (blkOk_by (own := [("_law_dancer", 1)]) (N := ["_law_dancers", "_law_dancer"]) (sc := defScope s_law_first) (by decide +kernel)) rfl (by decide) ?_ ?_ ?_
  · refine cj_i ?_
    refine ci_range1 (by rfl) T.b_range ?_
    refine cab_cons ?_ ?_
    · exact cb_var (pv 0)
    · exact cab_nil
  · intro _ _ _ _ _
    exact pg_name (i := 1) sc_law_first.nd rfl (by first | exact .inl rfl | exact .inr rfl)
  · intro _ _ _ _ _
    exact pts_yes
  · intro _ _ _ _ _
    exact ce_var (pv 1)
theorem c_law_pairs (T : Top K mg) : Callee P w K mg base 1 "_law_pairs" 1 g_law_pairs := by
  obtain ⟨f, fd, F, hm, hb⟩ := T.d_law_pairs
  refine ⟨f, fd, ["_law_order_here"], rfl, hm, F.kp, hb, fn_ok2 (k := 0) (np := 1) (n := 4) f_law_pairs F sc_law_pairs rfl rfl (by decide) rfl fun cdv A outer s H E hr => ?_⟩
  unfold f_law_pairs
  refine css_cons ?_ ?_
  · refine cs_asgF (i := 1) sc_law_pairs.nd rfl (by first | exact .inl rfl | exact .inr rfl) ?_
    refine cf_lst ?_
    exact cae_nil
  · refine css_cons ?_ ?_
    · refine cs_for (t := (.nm 2)) (kl := [2, 3]) (passes_of rfl) rfl ?_ (pg_name (i := 2) sc_law_pairs.nd rfl (by first | exact .inl rfl | exact .inr rfl)) ?_
      · refine ci_range1 (by rfl) T.b_range ?_
        refine cab_cons ?_ ?_
        · refine cb_e ?_
          refine ce_callB call_len fl_len (by rfl) T.b_len (by decide +kernel) ?_
          refine cab_cons ?_ ?_
          · exact cb_var (pv 0)
          · exact cab_nil
        · exact cab_nil
      · refine css_one ?_
        refine cs_for (t := (.nm 3)) (kl := [3]) (passes_of rfl) rfl ?_ (pg_name (i := 3) sc_law_pairs.nd rfl (by first | exact .inl rfl | exact .inr rfl)) ?_
        · refine ci_range2 (by rfl) T.b_range ?_
          refine cab_cons ?_ ?_
          · refine cb_e ?_
            refine ce_op op_add fl_add ?_ ?_
            · exact cb_var (pv 2)
            · refine cb_e ?_
              exact ce_int
          · refine cab_cons ?_ ?_
            · refine cb_e ?_
              refine ce_callB call_len fl_len (by rfl) T.b_len (by decide +kernel) ?_
              refine cab_cons ?_ ?_
              · exact cb_var (pv 0)
              · exact cab_nil
            · exact cab_nil
        · refine css_one ?_
          refine cs_if ?_ ?_ ?_
          · refine ct_cmp op_lt fl_lt ?_ ?_ (nomark _)
            · refine cb_e ?_
              refine ce_index (in_room hr) ?_ ?_
              · exact cb_var (pv 0)
              · exact cb_var (pv 3)
            · refine cb_e ?_
              refine ce_index (in_room hr) ?_ ?_
              · exact cb_var (pv 0)
              · exact cb_var (pv 2)
          · refine css_one ?_
            refine cs_app (pv 1) ?_
            refine ce_tup ?_
            refine cae_cons ?_ ?_
            · exact ce_var (pv 2)
            · refine cae_cons ?_ ?_
              · exact ce_var (pv 3)
              · exact cae_nil
          · exact css_nil
    · refine css_one ?_
      exact cs_retO (pv 1)
theorem c_law_counted (T : Top K mg) : Callee P w K mg base 2 "_law_counted" 1 g_law_counted := by
  obtain ⟨f, fd, F, hm, hb⟩ := T.d_law_counted
  have C__law_danced := (c_law_danced (P := P) (w := w) (base := base) T).mono (k' := 1) (by decide)
  have C__law_first := (c_law_first (P := P) (w := w) (base := base) T).mono (k' := 1) (by decide)
  have C__law_pairs := (c_law_pairs (P := P) (w := w) (base := base) T).mono (k' := 1) (by decide)
  refine ⟨f, fd, ["_law_order_here"], rfl, hm, F.kp, hb, fn_ok2 (k := 1) (np := 1) (n := 8) f_law_counted F sc_law_counted rfl rfl (by decide) rfl fun cdv A outer s H E hr => ?_⟩
  unfold f_law_counted
  refine css_cons ?_ ?_
  · refine cs_asgF (i := 1) sc_law_counted.nd rfl (by first | exact .inl rfl | exact .inr rfl) ?_
    refine cf_lst ?_
    refine cae_cons ?_ ?_
    · refine ce_tup ?_
      refine cae_cons ?_ ?_
      · refine ce_f ?_
        refine cf_call C__law_first hr (takes_of rfl rfl rfl rfl) (by rfl) ?_
        refine cae_cons ?_ ?_
        · refine ce_callB call_len fl_len (by rfl) T.b_len (by decide +kernel) ?_
          refine cab_cons ?_ ?_
          · exact cb_var (pv 0)
          · exact cab_nil
        · exact cae_nil
      · refine cae_cons ?_ ?_
        · exact ce_int
        · exact cae_nil
    · exact cae_nil
  · refine css_cons ?_ ?_
    · refine cs_for (t := (.nm 2)) (kl := [2, 3, 4, 5, 6]) (passes_of rfl) rfl ?_ (pg_name (i := 2) sc_law_counted.nd rfl (by first | exact .inl rfl | exact .inr rfl)) ?_
      · refine ci_range1 (by rfl) T.b_range ?_
        refine cab_cons ?_ ?_
        · refine cb_e ?_
          refine ce_callB call_len fl_len (by rfl) T.b_len (by decide +kernel) ?_
          refine cab_cons ?_ ?_
          · refine cb_f ?_
            refine cf_call C__law_pairs hr (takes_of rfl rfl rfl rfl) (by rfl) ?_
            refine cae_cons ?_ ?_
            · exact ce_var (pv 0)
            · exact cae_nil
          · exact cab_nil
        · exact cab_nil
      · refine css_cons ?_ ?_
        · refine cs_asgF (i := 3) sc_law_counted.nd rfl (by first | exact .inl rfl | exact .inr rfl) ?_
          refine cf_lst ?_
          exact cae_nil
        · refine css_fz 1 ?_
          refine css_cons ?_ ?_
          · refine cs_for (t := (.tp [4, 5])) (kl := [4, 5, 6]) (passes_of rfl) rfl ?_ (pg_tup rfl (pgs_cons (pg_name (i := 4) sc_law_counted.nd rfl (by first | exact .inl rfl | exact .inr rfl)) (pgs_cons (pg_name (i := 5) sc_law_counted.nd rfl (by first | exact .inl rfl | exact .inr rfl)) pgs_nil))) ?_
            · refine ci_list ?_
              exact ce_var (pv 1)
            · refine css_one ?_
              refine cs_for (t := (.nm 6)) (kl := [6]) (passes_of rfl) rfl ?_ (pg_name (i := 6) sc_law_counted.nd rfl (by first | exact .inl rfl | exact .inr rfl)) ?_
              · refine ci_range1 (by rfl) T.b_range ?_
                refine cab_cons ?_ ?_
                · refine cb_e ?_
                  refine ce_op op_sub fl_sub ?_ ?_
                  · refine cb_e ?_
                    refine ce_callB call_len fl_len (by rfl) T.b_len (by decide +kernel) ?_
                    refine cab_cons ?_ ?_
                    · exact cb_var (pv 4)
                    · exact cab_nil
                  · refine cb_e ?_
                    exact ce_int
                · exact cab_nil
              · refine css_one ?_
                refine cs_if ?_ ?_ ?_
                · refine ct_cmp op_lt fl_lt ?_ ?_ (nomark _)
                  · refine cb_e ?_
                    refine ce_ix ?_ ?_ (fun _ _ => rfl)
                    · exact cu_var (pv 4)
                    · exact cb_var (pv 6)
                  · refine cb_e ?_
                    refine ce_ix ?_ ?_ (fun _ _ => rfl)
                    · exact cu_var (pv 4)
                    · refine cb_e ?_
                      refine ce_op op_add fl_add ?_ ?_
                      · exact cb_var (pv 6)
                      · refine cb_e ?_
                        exact ce_int
                · refine css_one ?_
                  refine cs_app (pv 3) ?_
                  refine ce_tup ?_
                  refine cae_cons ?_ ?_
                  · refine ce_f ?_
                    refine cf_call C__law_danced hr (takes_of rfl rfl rfl rfl) (by rfl) ?_
                    refine cae_cons ?_ ?_
                    · exact ce_var (pv 4)
                    · refine cae_cons ?_ ?_
                      · refine ce_f ?_
                        refine cf_lst ?_
                        refine cae_cons ?_ ?_
                        · exact ce_var (pv 6)
                        · exact cae_nil
                      · exact cae_nil
                  · refine cae_cons ?_ ?_
                    · exact ce_var (pv 5)
                    · exact cae_nil
                · exact css_nil
          · refine css_cons ?_ ?_
            · refine cs_asgF (i := 1) sc_law_counted.nd rfl (by first | exact .inl rfl | exact .inr rfl) ?_
              refine cf_lst ?_
              exact cae_nil
            · refine css_one ?_
              refine cs_for (t := (.nm 4)) (kl := [4, 5]) (passes_of rfl) rfl ?_ (pg_name (i := 4) sc_law_counted.nd rfl (by first | exact .inl rfl | exact .inr rfl)) ?_
              · refine ci_list ?_
                refine ce_f ?_
                refine cf_lc (t := (.tp [7, 5])) rfl sc_law_counted.nd ?_ (blkOk_by (own := [("_law_some", 7), ("_law_many", 5)]) (N := ["_law_order_here", "_law_ways", "_law_turn", "_law_more", "_law_now", "_law_many", "_law_step", "_law_some"]) (sc := defScope s_law_counted) (by decide +kernel)) rfl (by decide) ?_ ?_ ?_
                · exact cj_own (pv 3)
                · intro _ _ _ _ _
                  exact pg_tup rfl (pgs_cons (pg_name (i := 7) sc_law_counted.nd rfl (by first | exact .inl rfl | exact .inr rfl)) (pgs_cons (pg_name (i := 5) sc_law_counted.nd rfl (by first | exact .inl rfl | exact .inr rfl)) pgs_nil))
                · intro _ _ _ _ _
                  exact pts_yes
                · intro _ _ _ _ _
                  exact ce_var (pv 7)
              · refine css_one ?_
                refine cs_if ?_ ?_ ?_
                · refine ct_cmp (op_notInD (in_room hr)) fl_notIn ?_ ?_ (by rfl)
                  · exact cb_var (pv 4)
                  · refine cb_f ?_
                    refine cf_lc (t := (.tp [7, 5])) rfl sc_law_counted.nd ?_ (blkOk_by (own := [("_law_some", 7), ("_law_many", 5)]) (N := ["_law_order_here", "_law_ways", "_law_turn", "_law_more", "_law_now", "_law_many", "_law_step", "_law_some"]) (sc := defScope s_law_counted) (by decide +kernel)) rfl (by decide) ?_ ?_ ?_
                    · exact cj_own (pv 1)
                    · intro _ _ _ _ _
                      exact pg_tup rfl (pgs_cons (pg_name (i := 7) sc_law_counted.nd rfl (by first | exact .inl rfl | exact .inr rfl)) (pgs_cons (pg_name (i := 5) sc_law_counted.nd rfl (by first | exact .inl rfl | exact .inr rfl)) pgs_nil))
                    · intro _ _ _ _ _
                      exact pts_yes
                    · intro _ _ _ _ _
                      exact ce_var (pv 7)
                · refine css_one ?_
                  refine cs_app (pv 1) ?_
                  refine ce_tup ?_
                  refine cae_cons ?_ ?_
                  · exact ce_var (pv 4)
                  · refine cae_cons ?_ ?_
                    · refine ce_callB (cr_sum rfl) fl_sum (by rfl) T.b_sum (by decide +kernel) ?_
                      refine cab_cons ?_ ?_
                      · refine cb_f ?_
                        refine cf_lc (t := (.tp [7, 5])) rfl sc_law_counted.nd ?_ (blkOk_by (own := [("_law_some", 7), ("_law_many", 5)]) (N := ["_law_order_here", "_law_ways", "_law_turn", "_law_more", "_law_now", "_law_many", "_law_step", "_law_some"]) (sc := defScope s_law_counted) (by decide +kernel)) rfl (by decide) ?_ ?_ ?_
                        · exact cj_own (pv 3)
                        · intro _ _ _ _ _
                          exact pg_tup rfl (pgs_cons (pg_name (i := 7) sc_law_counted.nd rfl (by first | exact .inl rfl | exact .inr rfl)) (pgs_cons (pg_name (i := 5) sc_law_counted.nd rfl (by first | exact .inl rfl | exact .inr rfl)) pgs_nil))
                        · intro _ _ _ _ _
                          refine pts_one ?_
                          refine ct_cmp (op_eqD hr.units) fl_eq ?_ ?_ (nomark _)
                          · exact cb_var (pv 7)
                          · exact cb_var (pv 4)
                        · intro _ _ _ _ _
                          exact ce_var (pv 5)
                      · exact cab_nil
                    · exact cae_nil
                · exact css_nil
    · refine css_one ?_
      refine cs_retE ?_
      refine ce_callB (cr_sum rfl) fl_sum (by rfl) T.b_sum (by decide +kernel) ?_
      refine cab_cons ?_ ?_
      · refine cb_f ?_
        refine cf_lc (t := (.tp [4, 5])) rfl sc_law_counted.nd ?_ (blkOk_by (own := [("_law_now", 4), ("_law_many", 5)]) (N := ["_law_order_here", "_law_ways", "_law_turn", "_law_more", "_law_now", "_law_many", "_law_step", "_law_some"]) (sc := defScope s_law_counted) (by decide +kernel)) rfl (by decide) ?_ ?_ ?_
        · exact cj_own (pv 1)
        · intro _ _ _ _ _
          exact pg_tup rfl (pgs_cons (pg_name (i := 4) sc_law_counted.nd rfl (by first | exact .inl rfl | exact .inr rfl)) (pgs_cons (pg_name (i := 5) sc_law_counted.nd rfl (by first | exact .inl rfl | exact .inr rfl)) pgs_nil))
        · intro _ _ _ _ _
          refine pts_one ?_
          refine ct_cmp (op_eqD hr.units) fl_eq ?_ ?_ (nomark _)
          · exact cb_var (pv 4)
          · exact cb_var (pv 0)
        · intro _ _ _ _ _
          exact ce_var (pv 5)
      · exact cab_nil
theorem law_fn {f : Addr} {fd : FuncData} (T : Top K mg) (F : Fun K "law" "law" s_law f fd) : FnOk P w K mg base (L2.CX P w) 28 f fd ["_law_script"] (spF K mg 1 g_law) := by
  have C__law_cell_at := (c_law_cell_at (P := P) (w := w) (base := base) T).mono (k' := 27) (by decide)
  have C__law_counted := (c_law_counted (P := P) (w := w) (base := base) T).mono (k' := 27) (by decide)
  have C__law_danced := (c_law_danced (P := P) (w := w) (base := base) T).mono (k' := 27) (by decide)
  have C__law_draw := (c_law_draw (P := P) (w := w) (base := base) T).mono (k' := 27) (by decide)
  have C__law_first := (c_law_first (P := P) (w := w) (base := base) T).mono (k' := 27) (by decide)
  have C__law_order := (c_law_order (P := P) (w := w) (base := base) T).mono (k' := 27) (by decide)
  have C_how_many := (c_how_many (P := P) (w := w) (base := base) T).mono (k' := 27) (by decide)
  refine fn_ok2 (k := 27) (np := 1) (n := 9) f_law F sc_law rfl rfl (by decide) rfl fun cdv A outer s H E hr => ?_
  unfold f_law
  refine css_cons ?_ ?_
  · refine cs_asgE (i := 1) sc_law.nd rfl (by first | exact .inl rfl | exact .inr rfl) ?_
    refine ce_op op_add fl_add ?_ ?_
    · refine cb_e ?_
      exact ce_int
    · refine cb_e ?_
      refine ce_op op_mod fl_mod ?_ ?_
      · refine cb_e ?_
        refine ce_call C__law_cell_at hr (takes_of rfl rfl rfl rfl) (by rfl) ?_
        refine cae_cons ?_ ?_
        · exact ce_var (pv 0)
        · refine cae_cons ?_ ?_
          · exact ce_int
          · exact cae_nil
      · refine cb_e ?_
        exact ce_int
  · refine css_cons ?_ ?_
    · refine cs_if ?_ ?_ ?_
      · refine ct_cmp (op_eqD hr.units) fl_eq ?_ ?_ (nomark _)
        · refine cb_e ?_
          refine ce_op op_mod fl_mod ?_ ?_
          · refine cb_e ?_
            refine ce_op op_fdiv fl_div ?_ ?_
            · refine cb_e ?_
              refine ce_call C__law_cell_at hr (takes_of rfl rfl rfl rfl) (by rfl) ?_
              refine cae_cons ?_ ?_
              · exact ce_var (pv 0)
              · refine cae_cons ?_ ?_
                · exact ce_int
                · exact cae_nil
            · refine cb_e ?_
              exact ce_int
          · refine cb_e ?_
            exact ce_int
        · refine cb_e ?_
          exact ce_int
      · refine css_one ?_
        refine cs_asgE (i := 1) sc_law.nd rfl (by first | exact .inl rfl | exact .inr rfl) ?_
        exact ce_int
      · exact css_nil
    · refine css_cons ?_ ?_
      · refine cs_asgE (i := 2) sc_law.nd rfl (by first | exact .inl rfl | exact .inr rfl) ?_
        refine ce_f ?_
        refine cf_call C__law_order hr (takes_of rfl rfl rfl rfl) (by rfl) ?_
        refine cae_cons ?_ ?_
        · refine ce_call C__law_cell_at hr (takes_of rfl rfl rfl rfl) (by rfl) ?_
          refine cae_cons ?_ ?_
          · exact ce_var (pv 0)
          · refine cae_cons ?_ ?_
            · exact ce_int
            · exact cae_nil
        · refine cae_cons ?_ ?_
          · exact ce_var (pv 1)
          · exact cae_nil
      · refine css_cons ?_ ?_
        · refine cs_asgE (i := 3) sc_law.nd rfl (by first | exact .inl rfl | exact .inr rfl) ?_
          refine ce_f ?_
          refine cf_list (by rfl) T.b_list ?_
          exact cu_var (pv 2)
        · refine css_cons ?_ ?_
          · refine cs_asgE (i := 4) sc_law.nd rfl (by first | exact .inl rfl | exact .inr rfl) ?_
            refine ce_call C_how_many hr (takes_of rfl rfl rfl rfl) (by rfl) ?_
            refine cae_cons ?_ ?_
            · exact ce_var (pv 3)
            · exact cae_nil
          · refine css_cons ?_ ?_
            · refine cs_if ?_ ?_ ?_
              · refine ct_w ?_
                refine cw_or ?_ ?_
                · refine ct_not ?_
                  refine ct_e ?_
                  refine ce_isi .int (by rfl) T.b_isinstance ?_ (pe_bltn (by rfl) T.b_int (by decide +kernel) rfl)
                  exact cb_var (pv 4)
                · refine cw_or ?_ ?_
                  · refine ct_e ?_
                    refine ce_isi .bool (by rfl) T.b_isinstance ?_ (pe_bltn (by rfl) T.b_bool (by decide +kernel) rfl)
                    exact cb_var (pv 4)
                  · refine cw_or ?_ ?_
                    · refine ct_cmp (op_neD hr.units) fl_ne ?_ ?_ (nomark _)
                      · exact cb_var (pv 4)
                      · refine cb_e ?_
                        refine ce_call C__law_counted hr (takes_of rfl rfl rfl rfl) (by rfl) ?_
                        refine cae_cons ?_ ?_
                        · exact ce_var (pv 2)
                        · exact cae_nil
                    · refine cw_or1 ?_
                      refine ct_cmp (op_neD hr.units) fl_ne ?_ ?_ (nomark _)
                      · exact cb_var (pv 3)
                      · exact cb_var (pv 2)
              · refine css_one ?_
                refine cs_retE ?_
                exact ce_bl
              · exact css_nil
            · refine css_cons ?_ ?_
              · refine cs_if ?_ ?_ ?_
                · refine ct_cmp (op_eqD hr.units) fl_eq ?_ ?_ (nomark _)
                  · refine cb_e ?_
                    refine ce_op op_mod fl_mod ?_ ?_
                    · refine cb_e ?_
                      refine ce_call C__law_cell_at hr (takes_of rfl rfl rfl rfl) (by rfl) ?_
                      refine cae_cons ?_ ?_
                      · exact ce_var (pv 0)
                      · refine cae_cons ?_ ?_
                        · exact ce_int
                        · exact cae_nil
                    · refine cb_e ?_
                      exact ce_int
                  · refine cb_e ?_
                    exact ce_int
                · refine css_one ?_
                  refine cs_retE ?_
                  refine ce_cmp (op_eqD hr.units) fl_eq ?_ ?_ (nomark _)
                  · refine cb_e ?_
                    refine ce_call C_how_many hr (takes_of rfl rfl rfl rfl) (by rfl) ?_
                    refine cae_cons ?_ ?_
                    · refine ce_f ?_
                      refine cf_lst ?_
                      refine cae_cons ?_ ?_
                      · exact ce_int
                      · refine cae_cons ?_ ?_
                        · exact ce_int
                        · refine cae_cons ?_ ?_
                          · exact ce_int
                          · refine cae_cons ?_ ?_
                            · exact ce_int
                            · refine cae_cons ?_ ?_
                              · exact ce_int
                              · refine cae_cons ?_ ?_
                                · exact ce_int
                                · exact cae_nil
                    · exact cae_nil
                  · refine cb_e ?_
                    exact ce_int
                · exact css_nil
              · refine css_cons ?_ ?_
                · refine cs_if ?_ ?_ ?_
                  · refine ct_cmp (op_eqD hr.units) fl_eq ?_ ?_ (nomark _)
                    · refine cb_e ?_
                      refine ce_op op_mod fl_mod ?_ ?_
                      · refine cb_e ?_
                        refine ce_call C__law_cell_at hr (takes_of rfl rfl rfl rfl) (by rfl) ?_
                        refine cae_cons ?_ ?_
                        · exact ce_var (pv 0)
                        · refine cae_cons ?_ ?_
                          · exact ce_int
                          · exact cae_nil
                      · refine cb_e ?_
                        exact ce_int
                    · refine cb_e ?_
                      exact ce_int
                  · refine css_one ?_
                    refine cs_retE ?_
                    refine ce_cmp (op_eqD hr.units) fl_eq ?_ ?_ (nomark _)
                    · refine cb_e ?_
                      refine ce_call C_how_many hr (takes_of rfl rfl rfl rfl) (by rfl) ?_
                      refine cae_cons ?_ ?_
                      · refine ce_f ?_
                        refine cf_lst ?_
                        refine cae_cons ?_ ?_
                        · exact ce_int
                        · refine cae_cons ?_ ?_
                          · exact ce_int
                          · refine cae_cons ?_ ?_
                            · exact ce_int
                            · refine cae_cons ?_ ?_
                              · exact ce_int
                              · refine cae_cons ?_ ?_
                                · exact ce_int
                                · refine cae_cons ?_ ?_
                                  · exact ce_int
                                  · refine cae_cons ?_ ?_
                                    · exact ce_int
                                    · exact cae_nil
                      · exact cae_nil
                    · refine cb_e ?_
                      exact ce_int
                  · exact css_nil
                · refine css_cons ?_ ?_
                  · refine cs_asgE (i := 5) sc_law.nd rfl (by first | exact .inl rfl | exact .inr rfl) ?_
                    refine ce_f ?_
                    refine cf_call C__law_first hr (takes_of rfl rfl rfl rfl) (by rfl) ?_
                    refine cae_cons ?_ ?_
                    · refine ce_op op_add fl_add ?_ ?_
                      · refine cb_e ?_
                        exact ce_int
                      · refine cb_e ?_
                        refine ce_op op_mod fl_mod ?_ ?_
                        · refine cb_e ?_
                          refine ce_call C__law_cell_at hr (takes_of rfl rfl rfl rfl) (by rfl) ?_
                          refine cae_cons ?_ ?_
                          · exact ce_var (pv 0)
                          · refine cae_cons ?_ ?_
                            · exact ce_int
                            · exact cae_nil
                        · refine cb_e ?_
                          exact ce_int
                    · exact cae_nil
                  · refine css_cons ?_ ?_
                    · refine cs_for (t := (.nm 6)) (kl := [6, 8]) (passes_of rfl) rfl ?_ (pg_name (i := 6) sc_law.nd rfl (by first | exact .inl rfl | exact .inr rfl)) ?_
                      · refine ci_range1 (by rfl) T.b_range ?_
                        refine cab_cons ?_ ?_
                        · refine cb_e ?_
                          exact ce_int
                        · exact cab_nil
                      · refine css_cons ?_ ?_
                        · refine cs_asgE (i := 8) sc_law.nd rfl (by first | exact .inl rfl | exact .inr rfl) ?_
                          refine ce_call C__law_draw hr (takes_of rfl rfl rfl rfl) (by rfl) ?_
                          refine cae_cons ?_ ?_
                          · refine ce_op op_add fl_add ?_ ?_
                            · refine cb_e ?_
                              refine ce_call C__law_cell_at hr (takes_of rfl rfl rfl rfl) (by rfl) ?_
                              refine cae_cons ?_ ?_
                              · exact ce_var (pv 0)
                              · refine cae_cons ?_ ?_
                                · exact ce_int
                                · exact cae_nil
                            · refine cb_e ?_
                              refine ce_op op_mul fl_mul ?_ ?_
                              · refine cb_e ?_
                                exact ce_int
                              · exact cb_var (pv 6)
                          · refine cae_cons ?_ ?_
                            · exact ce_int
                            · refine cae_cons ?_ ?_
                              · refine ce_op op_sub fl_sub ?_ ?_
                                · refine cb_e ?_
                                  refine ce_callB call_len fl_len (by rfl) T.b_len (by decide +kernel) ?_
                                  refine cab_cons ?_ ?_
                                  · exact cb_var (pv 5)
                                  · exact cab_nil
                                · refine cb_e ?_
                                  exact ce_int
                              · exact cae_nil
                        · refine css_one ?_
                          refine cs_if ?_ ?_ ?_
                          · refine ct_cmp op_lt fl_lt ?_ ?_ (nomark _)
                            · refine cb_e ?_
                              refine ce_ix ?_ ?_ (fun _ _ => rfl)
                              · exact cu_var (pv 5)
                              · exact cb_var (pv 8)
                            · refine cb_e ?_
                              refine ce_ix ?_ ?_ (fun _ _ => rfl)
                              · exact cu_var (pv 5)
                              · refine cb_e ?_
                                refine ce_op op_add fl_add ?_ ?_
                                · exact cb_var (pv 8)
                                · refine cb_e ?_
                                  exact ce_int
                          · refine css_one ?_
                            refine cs_asgE (i := 5) sc_law.nd rfl (by first | exact .inl rfl | exact .inr rfl) ?_
                            refine ce_f ?_
                            refine cf_call C__law_danced hr (takes_of rfl rfl rfl rfl) (by rfl) ?_
                            refine cae_cons ?_ ?_
                            · exact ce_var (pv 5)
                            · refine cae_cons ?_ ?_
                              · refine ce_f ?_
                                refine cf_lst ?_
                                refine cae_cons ?_ ?_
                                · exact ce_var (pv 8)
                                · exact cae_nil
                              · exact cae_nil
                          · exact css_nil
                    · refine css_cons ?_ ?_
                      · refine cs_if ?_ ?_ ?_
                        · refine ct_cmp op_gt fl_gt ?_ ?_ (nomark _)
                          · refine cb_e ?_
                            refine ce_op op_mod fl_mod ?_ ?_
                            · refine cb_e ?_
                              refine ce_call C__law_cell_at hr (takes_of rfl rfl rfl rfl) (by rfl) ?_
                              refine cae_cons ?_ ?_
                              · exact ce_var (pv 0)
                              · refine cae_cons ?_ ?_
                                · exact ce_int
                                · exact cae_nil
                            · refine cb_e ?_
                              exact ce_int
                          · refine cb_e ?_
                            exact ce_int
                        · refine css_one ?_
                          refine cs_retE ?_
                          exact ce_bl
                        · exact css_nil
                      · refine css_cons ?_ ?_
                        · refine cs_lcE (t := (.nm 8)) (i := 7) rfl sc_law.nd rfl rfl (sw_true rfl rfl rfl (by decide +kernel)) ?_ (blkOk_by (own := [("_law_step", 8)]) (N := ["_law_script", "_law_dancers", "_law_order_here", "_law_handed", "_law_found", "_law_great", "_law_k", "_law_steps", "_law_step"]) (sc := defScope s_law) (by decide +kernel)) rfl (by decide) ?_ ?_ ?_
                          · refine cj_i ?_
                            refine ci_range1 (by rfl) T.b_range ?_
                            refine cab_cons ?_ ?_
                            · refine cb_e ?_
                              refine ce_op op_sub fl_sub ?_ ?_
                              · refine cb_e ?_
                                refine ce_callB call_len fl_len (by rfl) T.b_len (by decide +kernel) ?_
                                refine cab_cons ?_ ?_
                                · exact cb_var (pv 5)
                                · exact cab_nil
                              · refine cb_e ?_
                                exact ce_int
                            · exact cab_nil
                          · intro _ _ _ _ _
                            exact pg_name (i := 8) sc_law.nd rfl (by first | exact .inl rfl | exact .inr rfl)
                          · intro _ _ _ _ _
                            refine pts_one ?_
                            refine ct_cmp op_gt fl_gt ?_ ?_ (nomark _)
                            · refine cb_e ?_
                              refine ce_ix ?_ ?_ (fun _ _ => rfl)
                              · exact cu_var (pv 5)
                              · exact cb_var (pv 8)
                            · refine cb_e ?_
                              refine ce_ix ?_ ?_ (fun _ _ => rfl)
                              · exact cu_var (pv 5)
                              · refine cb_e ?_
                                refine ce_op op_add fl_add ?_ ?_
                                · exact cb_var (pv 8)
                                · refine cb_e ?_
                                  exact ce_int
                          · intro _ _ _ _ _
                            exact ce_var (pv 8)
                        · refine css_one ?_
                          refine cs_retE ?_
                          refine ce_cmp (op_eqD hr.units) fl_eq ?_ ?_ (nomark _)
                          · refine cb_e ?_
                            refine ce_call C_how_many hr (takes_of rfl rfl rfl rfl) (by rfl) ?_
                            refine cae_cons ?_ ?_
                            · refine ce_f ?_
                              refine cf_list (by rfl) T.b_list ?_
                              exact cu_var (pv 5)
                            · exact cae_nil
                          · refine cb_e ?_
                            refine ce_callB (cr_sum rfl) fl_sum (by rfl) T.b_sum (by decide +kernel) ?_
                            refine cab_cons ?_ ?_
                            · refine cb_f ?_
                              refine cf_lc (t := (.nm 8)) rfl sc_law.nd ?_ (blkOk_by (own := [("_law_step", 8)]) (N := ["_law_script", "_law_dancers", "_law_order_here", "_law_handed", "_law_found", "_law_great", "_law_k", "_law_steps", "_law_step"]) (sc := defScope s_law) (by decide +kernel)) rfl (by decide) ?_ ?_ ?_
                              · exact cj_own (pv 7)
                              · intro _ _ _ _ _
                                exact pg_name (i := 8) sc_law.nd rfl (by first | exact .inl rfl | exact .inr rfl)
                              · intro _ _ _ _ _
                                exact pts_yes
                              · intro _ _ _ _ _
                                refine ce_call C_how_many hr takes0 (by rfl) ?_
                                refine cae_cons ?_ ?_
                                · refine ce_f ?_
                                  refine cf_call C__law_danced hr takes0 (by rfl) ?_
                                  refine cae_cons ?_ ?_
                                  · exact ce_var (pv 5)
                                  · refine cae_cons ?_ ?_
                                    · refine ce_f ?_
                                      refine cf_lst ?_
                                      refine cae_cons ?_ ?_
                                      · exact ce_var (pv 8)
                                      · exact cae_nil
                                    · exact cae_nil
                                · exact cae_nil
                            · exact cab_nil
end
end L_k12
end
section
set_option Elab.async false
set_option linter.all false
set_option maxRecDepth 100000
set_option autoImplicit false
set_option maxHeartbeats 1000000
set_option pp.maxSteps 400
namespace L_k12
open PySem L2 VL PF PM
theorem sumD_nl (l : List Nat) : sumD [.list (nl l)] = some (.int ((l.sum : Nat) : Int)) := by
  have e : ∀ l : List Nat, ((l.map fun (n : Nat) => (n : Int)).sum : Int) = ((l.sum : Nat) : Int) := by
    intro l
    induction l with
    | nil => rfl
    | cons a l ih => rw [List.map_cons, List.sum_cons, List.sum_cons, ih]; omega
  show (intsOf (nl l)).map (fun ns => PyData.int ns.sum) = _
  rw [intsOf_nl, Option.map_some, e]
theorem sum_filter (p : Nat → Bool) (f : Nat → Nat) : ∀ l : List Nat, ((l.filter p).map f).sum = (l.map fun k => if p k = true then f k else 0).sum
  | [] => rfl
  | k :: l => by
    rw [List.filter_cons, List.map_cons, List.sum_cons, ← sum_filter p f l]
    cases h : p k
    · simp
    · simp
theorem law_true (ns : List Int) (_ : ns.length ≤ 63) : g_law [scrD ns] = .val (.bool true) := by
  obtain ⟨c0, h0⟩ := g_cell ns 0
  obtain ⟨c1, h1⟩ := g_cell ns 1
  obtain ⟨c2, h2⟩ := g_cell ns 2
  obtain ⟨c3, h3⟩ := g_cell ns 3
  have h0 : g_law_cell_at [scrD ns, .int 0] = _ := h0
  have h1 : g_law_cell_at [scrD ns, .int 1] = _ := h1
  have h2 : g_law_cell_at [scrD ns, .int 2] = _ := h2
  have h3 : g_law_cell_at [scrD ns, .int 3] = _ := h3
  obtain ⟨n, nn, en⟩ : ∃ n : Nat, Nn n ∧ ((if c0 / 4 % 5 = 1 then (5 : Int) else 1 + c0 % 4) = (n : Int)) := by
    by_cases h : c0 / 4 % 5 = 1
    · exact ⟨5, ⟨by omega, by omega⟩, by rw [if_pos h]; rfl⟩
    · exact ⟨(1 + c0 % 4).toNat, ⟨by omega, by omega⟩, by rw [if_neg h]; omega⟩
  obtain ⟨o, eo, od⟩ := g_law_order_ex c1 nn
  have ew := g_how_many_eq od
  have ec := g_law_counted_eq od
  have w6 := g_how_many_eq od_6
  rw [W_6] at w6
  have w6 : g_how_many [.list [.int 5, .int 4, .int 3, .int 2, .int 1, .int 0]] = .val (.int 292864) := w6
  have w7 := g_how_many_eq od_7
  rw [W_7] at w7
  have w7 : g_how_many [.list [.int 6, .int 5, .int 4, .int 3, .int 2, .int 1, .int 0]] = .val (.int 1100742656) := w7
  obtain ⟨m, hm, em⟩ : ∃ m : Nat, (m = 6 ∨ m = 7) ∧ 6 + c2 % 2 = (m : Int) := ⟨(6 + c2 % 2).toNat, by omega, by omega⟩
  have mm : Nn m := ⟨by omega, by omega⟩
  have m7 := mm.hi
  unfold g_law f_law
  generalize hb : (sSeq (sAsgE 8 _) (sIf _ _ _)) = body
  have loop : ∀ (ks : List Nat) (g : List Nat) (x1 x2 x3 x4 : Slot), Od m g → ∃ g', forL (.nm 6) [6, 8] body (nl ks) [.fz (scrD ns), x1, x2, x3, x4, .fz (.list (nl g)), .no, .no, .no] = .nx [.fz (scrD ns), x1, x2, x3, x4, .fz (.list (nl g')), .no, .no, .no] ∧ Od m g' ∧ invs g ≤ invs g' ∧ (ks ≠ [] → invs g = 0 → 1 ≤ invs g') := by
    intro ks
    induction ks with
    | nil => intro g x1 x2 x3 x4 hg; exact ⟨g, rfl, hg, Nat.le_refl _, fun h => absurd rfl h⟩
    | cons k ks ih =>
      intro g x1 x2 x3 x4 hg
      have hlg := hg.len
      obtain ⟨s, hs, es⟩ := g_drawn (c3 + 31 * (k : Int)) 6 (m - 1) (by omega)
      rw [show ((m - 1 : Nat) : Int) = (m : Int) - 1 by omega] at es
      have mu : mulI (.int 31) (.int (k : Int)) = some (.int (31 * (k : Int))) := mulI_l _ _ (by decide)
      have a0 := atI_nl g s (by omega)
      have a1 := atI_nl1 g s (by omega)
      have ed := g_law_danced_eq g [s] (fun x hx => by rw [List.mem_singleton.mp hx]; omega) (by omega)
      have ed : g_law_danced [.list (nl g), .list [.int (s : Int)]] = .lst (nl (swp g s)) := ed
      have cp : ∀ x : PyData, capL [x] = .ok [x] := fun _ => rfl
      by_cases ha : g[s]?.getD 0 < g[s + 1]?.getD 0
      · have hi : ((g[s]?.getD 0 : Nat) : Int) < ((g[s + 1]?.getD 0 : Nat) : Int) := by omega
        have hup := swp_up g s (by omega) ha
        obtain ⟨g', e', q1, q2, q3⟩ := ih (swp g s) x1 x2 x3 x4 (od_swp hg s)
        refine ⟨g', ?_, q1, by omega, fun _ _ => by omega⟩
        rw [nl_cons, forL_cons]
        simp only [tgSet_nm, List.set_cons_succ, List.set_cons_zero]
        have hbd : body [.fz (scrD ns), x1, x2, x3, x4, .fz (.list (nl g)), .fz (.int (k : Int)), .no, .no] = .nx [.fz (scrD ns), x1, x2, x3, x4, .fz (.list (nl (swp g s))), .fz (.int (k : Int)), .no, .fz (.int (s : Int))] := by
          subst hb
          simp only [sSeq_e, sIf_e, sAsgE_e, b1_e, b2_e, eC_e, aCons_e, aNil_e, eVar, bVar, uVar, List.getElem?_cons_succ, List.getElem?_cons_zero, bind_ok, callV_eq (n := 2) h3 rfl, mu, ofO_some, addI_i, lenD_l, nl_len, hlg, subI_i, callV_eq (n := 3) es rfl, thn_ok, List.set_cons_succ, List.set_cons_zero, idxD_l, a0, a1, ltI_i, asB_e, decide_eq_true hi, cp, okL_e, callL_eq (n := 2) ed rfl]
        rw [hbd]
        simp only [killS_cons, killS_nil, List.set_cons_succ, List.set_cons_zero]
        exact e'
      · have hi : ¬ ((g[s]?.getD 0 : Nat) : Int) < ((g[s + 1]?.getD 0 : Nat) : Int) := by omega
        obtain ⟨g', e', q1, q2, q3⟩ := ih g x1 x2 x3 x4 hg
        refine ⟨g', ?_, q1, q2, fun _ hz => ?_⟩
        · rw [nl_cons, forL_cons]
          simp only [tgSet_nm, List.set_cons_succ, List.set_cons_zero]
          have hbd : body [.fz (scrD ns), x1, x2, x3, x4, .fz (.list (nl g)), .fz (.int (k : Int)), .no, .no] = .nx [.fz (scrD ns), x1, x2, x3, x4, .fz (.list (nl g)), .fz (.int (k : Int)), .no, .fz (.int (s : Int))] := by
            subst hb
            simp only [sSeq_e, sIf_e, sAsgE_e, b1_e, b2_e, eC_e, aCons_e, aNil_e, eVar, bVar, uVar, List.getElem?_cons_succ, List.getElem?_cons_zero, bind_ok, callV_eq (n := 2) h3 rfl, mu, ofO_some, addI_i, lenD_l, nl_len, hlg, subI_i, callV_eq (n := 3) es rfl, thn_ok, List.set_cons_succ, List.set_cons_zero, idxD_l, a0, a1, ltI_i, asB_e, decide_eq_false hi, sNil_e]
          rw [hbd]
          simp only [killS_cons, killS_nil, List.set_cons_succ, List.set_cons_zero]
          exact e'
        · refine absurd ?_ ha
          rw [range_of hg hz, List.getElem?_range (by omega), List.getElem?_range (by omega)]
          show s < s + 1
          omega
  obtain ⟨g, eg, og, _, hg⟩ := loop (List.range 9) (List.range m) (.fz (.int (n : Int))) (.fz (.list (nl o))) (.fz (.list (nl o))) (.fz (.int (W o : Int))) (od_range mm)
  have hg := hg (by decide) (invs_range m)
  have hlg := og.len
  have r9 : rgA1 [.int 9] = some (nl (List.range 9)) := rfl
  have ef := g_law_first_eq m (by omega)
  have rg := rgA1_nat (m - 1) (by omega)
  rw [show ((m - 1 : Nat) : Int) = (m : Int) - 1 by omega] at rg
  have wg := g_how_many_eq og
  have hW : W g = ((((List.range (m - 1)).filter fun k => decide (g[k + 1]?.getD 0 < g[k]?.getD 0)).map fun k => W (swp g k)).sum) := by
    rw [sum_filter, W_eq, if_neg (fun e => by rw [e, hlg, invs_range] at hg; omega), Nat.zero_add, hlg]
    congr 1
    refine List.map_congr_left fun k _ => ?_
    unfold Wk
    by_cases h : g[k + 1]?.getD 0 < g[k]?.getD 0 <;> simp [h]
  have s1 : ∀ (x1 x2 x3 x4 x6 x7 : Slot), lcL (.nm 8) (b1 (b2 (b2 (uVar 5) (bVar 8) fun a b => ofO (idxD a b)) (b2 (uVar 5) (b2 (bVar 8) (eC (.int 1)) fun a b => ofO (addI a b)) fun a b => ofO (idxD a b)) fun a b => ofO (gtI a b)) asB) (eVar 8) (nl (List.range (m - 1))) [.fz (scrD ns), x1, x2, x3, x4, .fz (.list (nl g)), x6, x7, .no] = .ok (nl ((List.range (m - 1)).filter fun k => decide (g[k + 1]?.getD 0 < g[k]?.getD 0))) := by
    intro x1 x2 x3 x4 x6 x7
    refine lcL_eq (.nm 8) _ _ _ iN (fun k => decide (g[k + 1]?.getD 0 < g[k]?.getD 0)) iN (List.range (m - 1)) fun k hk => ⟨_, rfl, ?_, fun _ => rfl⟩
    have hk := List.mem_range.mp hk
    have a0 := atI_nl g k (by omega)
    have a1 := atI_nl1 g k (by omega)
    simp only [b1_e, b2_e, eC_e, bVar, uVar, List.set_cons_succ, List.set_cons_zero, List.getElem?_cons_succ, List.getElem?_cons_zero, bind_ok, idxD_l, a0, a1, ofO_some, addI_i, gtI_i, asB_e]
    congr 1
    apply decide_eq_decide.mpr
    omega
  have hst : ∀ k ∈ ((List.range (m - 1)).filter fun k => decide (g[k + 1]?.getD 0 < g[k]?.getD 0)), k + 1 < m := fun k hk => by
    have := List.mem_range.mp (List.mem_filter.mp hk).1
    omega
  have hsl : ((List.range (m - 1)).filter fun k => decide (g[k + 1]?.getD 0 < g[k]?.getD 0)).length ≤ 6 := by
    have := List.length_filter_le (fun k => decide (g[k + 1]?.getD 0 < g[k]?.getD 0)) (List.range (m - 1))
    rw [List.length_range] at this
    omega
  generalize ((List.range (m - 1)).filter fun k => decide (g[k + 1]?.getD 0 < g[k]?.getD 0)) = st at s1 hst hsl hW
  have s2 : ∀ (x1 x2 x3 x4 x6 x7 : Slot), lcL (.nm 8) tYesF (b1 (aCons (b1 (b1 (aCons (eVar 5) (aCons (b1 (b1 (aCons (eVar 8) aNil) capL) okL) aNil)) (callL g_law_danced 2)) okL) aNil) (callV g_how_many 1)) (nl st) [.fz (scrD ns), x1, x2, x3, x4, .fz (.list (nl g)), x6, x7, .no] = .ok (nl (st.map fun k => W (swp g k))) := by
    intro x1 x2 x3 x4 x6 x7
    rw [show nl (st.map fun k => W (swp g k)) = st.map fun k => .int ((W (swp g k) : Nat) : Int) by unfold nl; rw [List.map_map]; rfl]
    refine lcL_map (.nm 8) _ _ iN _ st fun k hk => ⟨_, rfl, ?_⟩
    have hk := hst k hk
    have ed := g_law_danced_eq g [k] (fun x hx => by rw [List.mem_singleton.mp hx]; omega) (by omega)
    have ed : g_law_danced [.list (nl g), .list [.int (k : Int)]] = .lst (nl (swp g k)) := ed
    have cp : ∀ x : PyData, capL [x] = .ok [x] := fun _ => rfl
    simp only [b1_e, aCons_e, aNil_e, eVar, List.set_cons_succ, List.set_cons_zero, List.getElem?_cons_succ, List.getElem?_cons_zero, bind_ok, cp, okL_e, callL_eq (n := 2) ed rfl, callV_eq (n := 1) (g_how_many_eq (od_swp og k)) rfl]
  have sm1 : small (nl (List.range (m - 1))).length = true := small_t (by rw [nl_len, List.length_range]; omega)
  have sm2 : small (nl st).length = true := small_t (by rw [nl_len]; omega)
  have n0 : (decide ((0 : Int) = 0)) = true := rfl
  generalize hlc1 : lcF (.nm 8) [8] (b1 (aCons (b2 (b1 (aCons (bVar 5) aNil) fun ds => ofO (lenD ds)) (eC (.int 1)) fun a b => ofO (subI a b)) aNil) fun ds => ofO (rgA1 ds)) _ (eVar 8) = lc1
  have lc1E : ∀ (x1 x2 x3 x4 x6 x7 : Slot), lc1 [.fz (scrD ns), x1, x2, x3, x4, .fz (.list (nl g)), x6, x7, .no] = .ok (nl st) := by
    intro x1 x2 x3 x4 x6 x7
    subst hlc1
    simp only [lcF_e, b1_e, b2_e, eC_e, aCons_e, aNil_e, bVar, List.getElem?_cons_succ, List.getElem?_cons_zero, bind_ok, lenD_l, nl_len, hlg, ofO_some, subI_i, rg, List.length_range, killS_cons, killS_nil, List.set_cons_succ, List.set_cons_zero]
    rw [if_pos (small_t (by omega))]
    exact s1 x1 x2 x3 x4 x6 x7
  generalize hlc2 : lcF (.nm 8) [8] (b1 (uVar 7) asL) tYesF _ = lc2
  have lc2E : ∀ (x1 x2 x3 x4 x6 : Slot), lc2 [.fz (scrD ns), x1, x2, x3, x4, .fz (.list (nl g)), x6, .fz (.list (nl st)), .no] = .ok (nl (st.map fun k => W (swp g k))) := by
    intro x1 x2 x3 x4 x6
    subst hlc2
    simp only [lcF_e, b1_e, uVar, List.getElem?_cons_succ, List.getElem?_cons_zero, bind_ok, asL_e, sm2, if_true, killS_cons, killS_nil, List.set_cons_succ, List.set_cons_zero]
    exact s2 x1 x2 x3 x4 x6 (.fz (.list (nl st)))
  have sd := sumD_nl (st.map fun k => W (swp g k))
  rw [← hW] at sd
  have i5 : capL [.int 5, .int 4, .int 3, .int 2, .int 1, .int 0] = .ok [.int 5, .int 4, .int 3, .int 2, .int 1, .int 0] := rfl
  have i6 : capL [.int 6, .int 5, .int 4, .int 3, .int 2, .int 1, .int 0] = .ok [.int 6, .int 5, .int 4, .int 3, .int 2, .int 1, .int 0] := rfl
  have a1 : (sIf (b1 (b2 (b2 (b2 (b1 (aCons (eVar 0) (aCons (eC (.int 0)) aNil)) (callV g_law_cell_at 2)) (eC (.int 4)) fun a b => ofO (divI a b)) (eC (.int 5)) fun a b => ofO (modI a b)) (eC (.int 1)) fun a b => ofO (eqD a b)) asB) (sAsgE 1 (eC (.int 5))) sNil) [.fz (scrD ns), .fz (.int (1 + c0 % 4)), .no, .no, .no, .no, .no, .no, .no] = .nx [.fz (scrD ns), .fz (.int (n : Int)), .no, .no, .no, .no, .no, .no, .no] := by
    rw [← en]
    by_cases h : c0 / 4 % 5 = 1 <;> simp [eVar, callV_eq (n := 2) h0, divI_t _ 4 (by decide), modI_t _ 5 (by decide), h]
  generalize (sIf (b1 (b2 (b2 (b2 (b1 (aCons (eVar 0) (aCons (eC (.int 0)) aNil)) (callV g_law_cell_at 2)) (eC (.int 4)) fun a b => ofO (divI a b)) (eC (.int 5)) fun a b => ofO (modI a b)) (eC (.int 1)) fun a b => ofO (eqD a b)) asB) (sAsgE 1 (eC (.int 5))) sNil) = si at a1 ⊢
  have k1 : modI (.int c0) (.int 4) = some (.int (c0 % 4)) := modI_t _ 4 (by decide)
  have k2 : modI (.int c2) (.int 12) = some (.int (c2 % 12)) := modI_t _ 12 (by decide)
  have k3 : modI (.int c2) (.int 48) = some (.int (c2 % 48)) := modI_t _ 48 (by decide)
  have k4 : modI (.int c2) (.int 2) = some (.int (c2 % 2)) := modI_t _ 2 (by decide)
  have k5 : modI (.int c2) (.int 3) = some (.int (c2 % 3)) := modI_t _ 3 (by decide)
  by_cases q1 : c2 % 12 = 1
  · simp only [runB_e, sSeq_e, sAsgE_e, sIf_e, sFor_e, sRetE_e, tOr2_e, b1_e, b2_e, eC_e, aCons_e, aNil_e, eVar, bVar, uVar, List.map_cons, List.map_nil, List.length_cons, List.length_nil, List.cons_append, List.nil_append, Nat.reduceAdd, Nat.reduceSub, List.replicate_succ, List.replicate_zero, List.getElem?_cons_succ, List.getElem?_cons_zero, bind_ok, thn_ok, List.set_cons_succ, List.set_cons_zero, callV_eq (n := 2) h0 rfl, k1, ofO_some, addI_i, a1, callV_eq (n := 2) h1 rfl, callL_eq (n := 2) eo rfl, okL_e, listD_l, callV_eq (n := 1) ew rfl, callV_eq (n := 1) ec rfl, isi_int_i, isi_bool_i, asB_e, bNot_e, Bool.not_true, neD_int, neD_nl, decide_true, sNil_e, callV_eq (n := 2) h2 rfl, k2, k3, k4, k5, eqD_int, i5, i6, callV_eq (n := 1) w6 rfl, callV_eq (n := 1) w7 rfl, em, callL_eq (n := 1) ef rfl, r9, killS_cons, killS_nil, eg, gtI_i, lc1E, lc2E, callV_eq (n := 1) wg rfl, sd, finF_rt, decide_eq_true q1]
  · by_cases q2 : c2 % 48 = 2
    · simp only [runB_e, sSeq_e, sAsgE_e, sIf_e, sFor_e, sRetE_e, tOr2_e, b1_e, b2_e, eC_e, aCons_e, aNil_e, eVar, bVar, uVar, List.map_cons, List.map_nil, List.length_cons, List.length_nil, List.cons_append, List.nil_append, Nat.reduceAdd, Nat.reduceSub, List.replicate_succ, List.replicate_zero, List.getElem?_cons_succ, List.getElem?_cons_zero, bind_ok, thn_ok, List.set_cons_succ, List.set_cons_zero, callV_eq (n := 2) h0 rfl, k1, ofO_some, addI_i, a1, callV_eq (n := 2) h1 rfl, callL_eq (n := 2) eo rfl, okL_e, listD_l, callV_eq (n := 1) ew rfl, callV_eq (n := 1) ec rfl, isi_int_i, isi_bool_i, asB_e, bNot_e, Bool.not_true, neD_int, neD_nl, decide_true, sNil_e, callV_eq (n := 2) h2 rfl, k2, k3, k4, k5, eqD_int, i5, i6, callV_eq (n := 1) w6 rfl, callV_eq (n := 1) w7 rfl, em, callL_eq (n := 1) ef rfl, r9, killS_cons, killS_nil, eg, gtI_i, lc1E, lc2E, callV_eq (n := 1) wg rfl, sd, finF_rt, decide_eq_false q1, decide_eq_true q2]
    · by_cases q3 : 0 < c2 % 3
      · simp only [runB_e, sSeq_e, sAsgE_e, sIf_e, sFor_e, sRetE_e, tOr2_e, b1_e, b2_e, eC_e, aCons_e, aNil_e, eVar, bVar, uVar, List.map_cons, List.map_nil, List.length_cons, List.length_nil, List.cons_append, List.nil_append, Nat.reduceAdd, Nat.reduceSub, List.replicate_succ, List.replicate_zero, List.getElem?_cons_succ, List.getElem?_cons_zero, bind_ok, thn_ok, List.set_cons_succ, List.set_cons_zero, callV_eq (n := 2) h0 rfl, k1, ofO_some, addI_i, a1, callV_eq (n := 2) h1 rfl, callL_eq (n := 2) eo rfl, okL_e, listD_l, callV_eq (n := 1) ew rfl, callV_eq (n := 1) ec rfl, isi_int_i, isi_bool_i, asB_e, bNot_e, Bool.not_true, neD_int, neD_nl, decide_true, sNil_e, callV_eq (n := 2) h2 rfl, k2, k3, k4, k5, eqD_int, i5, i6, callV_eq (n := 1) w6 rfl, callV_eq (n := 1) w7 rfl, em, callL_eq (n := 1) ef rfl, r9, killS_cons, killS_nil, eg, gtI_i, lc1E, lc2E, callV_eq (n := 1) wg rfl, sd, finF_rt, decide_eq_false q1, decide_eq_false q2, decide_eq_true q3]
      · simp only [runB_e, sSeq_e, sAsgE_e, sIf_e, sFor_e, sRetE_e, tOr2_e, b1_e, b2_e, eC_e, aCons_e, aNil_e, eVar, bVar, uVar, List.map_cons, List.map_nil, List.length_cons, List.length_nil, List.cons_append, List.nil_append, Nat.reduceAdd, Nat.reduceSub, List.replicate_succ, List.replicate_zero, List.getElem?_cons_succ, List.getElem?_cons_zero, bind_ok, thn_ok, List.set_cons_succ, List.set_cons_zero, callV_eq (n := 2) h0 rfl, k1, ofO_some, addI_i, a1, callV_eq (n := 2) h1 rfl, callL_eq (n := 2) eo rfl, okL_e, listD_l, callV_eq (n := 1) ew rfl, callV_eq (n := 1) ec rfl, isi_int_i, isi_bool_i, asB_e, bNot_e, Bool.not_true, neD_int, neD_nl, decide_true, sNil_e, callV_eq (n := 2) h2 rfl, k2, k3, k4, k5, eqD_int, i5, i6, callV_eq (n := 1) w6 rfl, callV_eq (n := 1) w7 rfl, em, callL_eq (n := 1) ef rfl, r9, killS_cons, killS_nil, eg, gtI_i, lc1E, lc2E, callV_eq (n := 1) wg rfl, sd, finF_rt, decide_eq_false q1, decide_eq_false q2, decide_eq_false q3]
end L_k12
end
section
set_option Elab.async false
set_option linter.all false
set_option maxRecDepth 100000
set_option maxHeartbeats 4000000
namespace L_k12
open PySem PySem.Spec PyProof.Rows L2 VL PF
theorem all_mk {l : PySem.W.OpenLaw} {w : World} {K : PySem.W.Frag} {h : Heap} {mg : Str → Option Value} {fa : Addr} (X : K.In h) (G : h.Ns mainGlobals mg) (hfa : mg "law" = some (.ref fa))
    {tg0 : Tok}
    {C0 : Addr}
    {f0 : Addr} {od0 an0 : Option Addr} {sl0 : Array (Option Value)} {oc0 kV0 dc0 pm0 cd0 ct0 : Value}
    {f1 : Addr} {od1 an1 : Option Addr} {sl1 : Array (Option Value)} {oc1 kV1 dc1 pm1 cd1 ct1 : Value}
    {f2 : Addr} {od2 an2 : Option Addr} {sl2 : Array (Option Value)} {oc2 kV2 dc2 pm2 cd2 ct2 : Value}
    {f3 : Addr} {od3 an3 : Option Addr} {sl3 : Array (Option Value)} {oc3 kV3 dc3 pm3 cd3 ct3 : Value}
    {f4 : Addr} {od4 an4 : Option Addr} {sl4 : Array (Option Value)} {oc4 kV4 dc4 pm4 cd4 ct4 : Value}
    {f5 : Addr} {od5 an5 : Option Addr} {sl5 : Array (Option Value)} {oc5 kV5 dc5 pm5 cd5 ct5 : Value}
    {f6 : Addr} {od6 an6 : Option Addr} {sl6 : Array (Option Value)} {oc6 kV6 dc6 pm6 cd6 ct6 : Value}
    {f7 : Addr} {od7 an7 : Option Addr} {sl7 : Array (Option Value)} {oc7 kV7 dc7 pm7 cd7 ct7 : Value}
    {f8 : Addr} {od8 an8 : Option Addr} {sl8 : Array (Option Value)} {oc8 kV8 dc8 pm8 cd8 ct8 : Value}
    {f9 : Addr} {od9 an9 : Option Addr} {sl9 : Array (Option Value)} {oc9 kV9 dc9 pm9 cd9 ct9 : Value}
    {f10 : Addr} {od10 an10 : Option Addr} {sl10 : Array (Option Value)} {oc10 kV10 dc10 pm10 cd10 ct10 : Value}
    {f11 : Addr} {od11 an11 : Option Addr} {sl11 : Array (Option Value)} {oc11 kV11 dc11 pm11 cd11 ct11 : Value}
    {f12 : Addr} {od12 an12 : Option Addr} {sl12 : Array (Option Value)} {oc12 kV12 dc12 pm12 cd12 ct12 : Value}
    {f13 : Addr} {od13 an13 : Option Addr} {sl13 : Array (Option Value)} {oc13 kV13 dc13 pm13 cd13 ct13 : Value}
    (z0 : PySem.W.nsIn K mainGlobals "bool" = some none)
    (z1 : PySem.W.nsIn K mainGlobals "int" = some none)
    (z2 : PySem.W.nsIn K mainGlobals "isinstance" = some none)
    (z3 : PySem.W.nsIn K mainGlobals "len" = some none)
    (z4 : PySem.W.nsIn K mainGlobals "list" = some none)
    (z5 : PySem.W.nsIn K mainGlobals "range" = some none)
    (z6 : PySem.W.nsIn K mainGlobals "sum" = some none)
    (z7 : PySem.W.nsIn K mainGlobals "tuple" = some none)
    (q0 : PySem.W.nsIn K mainGlobals "DANCERS" = some (some (.int 7 tg0)))
    (ea0 : PySem.W.nsIn K mainGlobals "BadOrder" = some (some (.ref C0)))
    (eb0 : PySem.W.excIn K C0 [.type "ValueError", .type "Exception", .type "BaseException", .type "object"] "ValueError.__new__" = true)
    (ec0 : PySem.W.keepIn K (.ref C0) = true)
    (ed0 : PySem.W.subIn K (.ref C0) (.type "BaseException") = some true)
    (ee0 : PySem.W.typeIn K (.ref C0) = some (.type "type"))
    (a0 : PySem.W.nsIn K mainGlobals "is_number" = some (some (.ref f0)))
    (l0 : K.lookup f0 = some ⟨oc0, od0, .func (PySem.W.fnOf "is_number" "is_number" (defArgs s_is_number) (defBody s_is_number) (defScope s_is_number) .none kV0 dc0 pm0 an0 cd0 ct0), sl0⟩)
    (c0 : PySem.W.codeIn K cd0 "is_number" = true)
    (k0 : PySem.W.keepIn K (.ref f0) = true)
    (a1 : PySem.W.nsIn K mainGlobals "asked_order" = some (some (.ref f1)))
    (l1 : K.lookup f1 = some ⟨oc1, od1, .func (PySem.W.fnOf "asked_order" "asked_order" (defArgs s_asked_order) (defBody s_asked_order) (defScope s_asked_order) .none kV1 dc1 pm1 an1 cd1 ct1), sl1⟩)
    (c1 : PySem.W.codeIn K cd1 "asked_order" = true)
    (k1 : PySem.W.keepIn K (.ref f1) = true)
    (a2 : PySem.W.nsIn K mainGlobals "at_first" = some (some (.ref f2)))
    (l2 : K.lookup f2 = some ⟨oc2, od2, .func (PySem.W.fnOf "at_first" "at_first" (defArgs s_at_first) (defBody s_at_first) (defScope s_at_first) .none kV2 dc2 pm2 an2 cd2 ct2), sl2⟩)
    (c2 : PySem.W.codeIn K cd2 "at_first" = true)
    (k2 : PySem.W.keepIn K (.ref f2) = true)
    (a3 : PySem.W.nsIn K mainGlobals "stepped" = some (some (.ref f3)))
    (l3 : K.lookup f3 = some ⟨oc3, od3, .func (PySem.W.fnOf "stepped" "stepped" (defArgs s_stepped) (defBody s_stepped) (defScope s_stepped) .none kV3 dc3 pm3 an3 cd3 ct3), sl3⟩)
    (c3 : PySem.W.codeIn K cd3 "stepped" = true)
    (k3 : PySem.W.keepIn K (.ref f3) = true)
    (a4 : PySem.W.nsIn K mainGlobals "ways_to" = some (some (.ref f4)))
    (l4 : K.lookup f4 = some ⟨oc4, od4, .func (PySem.W.fnOf "ways_to" "ways_to" (defArgs s_ways_to) (defBody s_ways_to) (defScope s_ways_to) .none kV4 dc4 pm4 an4 cd4 ct4), sl4⟩)
    (c4 : PySem.W.codeIn K cd4 "ways_to" = true)
    (k4 : PySem.W.keepIn K (.ref f4) = true)
    (a5 : PySem.W.nsIn K mainGlobals "how_many" = some (some (.ref f5)))
    (l5 : K.lookup f5 = some ⟨oc5, od5, .func (PySem.W.fnOf "how_many" "how_many" (defArgs s_how_many) (defBody s_how_many) (defScope s_how_many) .none kV5 dc5 pm5 an5 cd5 ct5), sl5⟩)
    (c5 : PySem.W.codeIn K cd5 "how_many" = true)
    (k5 : PySem.W.keepIn K (.ref f5) = true)
    (a6 : PySem.W.nsIn K mainGlobals "_law_cell_at" = some (some (.ref f6)))
    (l6 : K.lookup f6 = some ⟨oc6, od6, .func (PySem.W.fnOf "_law_cell_at" "_law_cell_at" (defArgs s_law_cell_at) (defBody s_law_cell_at) (defScope s_law_cell_at) .none kV6 dc6 pm6 an6 cd6 ct6), sl6⟩)
    (c6 : PySem.W.codeIn K cd6 "_law_cell_at" = true)
    (k6 : PySem.W.keepIn K (.ref f6) = true)
    (a7 : PySem.W.nsIn K mainGlobals "_law_draw" = some (some (.ref f7)))
    (l7 : K.lookup f7 = some ⟨oc7, od7, .func (PySem.W.fnOf "_law_draw" "_law_draw" (defArgs s_law_draw) (defBody s_law_draw) (defScope s_law_draw) .none kV7 dc7 pm7 an7 cd7 ct7), sl7⟩)
    (c7 : PySem.W.codeIn K cd7 "_law_draw" = true)
    (k7 : PySem.W.keepIn K (.ref f7) = true)
    (a8 : PySem.W.nsIn K mainGlobals "_law_order" = some (some (.ref f8)))
    (l8 : K.lookup f8 = some ⟨oc8, od8, .func (PySem.W.fnOf "_law_order" "_law_order" (defArgs s_law_order) (defBody s_law_order) (defScope s_law_order) .none kV8 dc8 pm8 an8 cd8 ct8), sl8⟩)
    (c8 : PySem.W.codeIn K cd8 "_law_order" = true)
    (k8 : PySem.W.keepIn K (.ref f8) = true)
    (a9 : PySem.W.nsIn K mainGlobals "_law_danced" = some (some (.ref f9)))
    (l9 : K.lookup f9 = some ⟨oc9, od9, .func (PySem.W.fnOf "_law_danced" "_law_danced" (defArgs s_law_danced) (defBody s_law_danced) (defScope s_law_danced) .none kV9 dc9 pm9 an9 cd9 ct9), sl9⟩)
    (c9 : PySem.W.codeIn K cd9 "_law_danced" = true)
    (k9 : PySem.W.keepIn K (.ref f9) = true)
    (a10 : PySem.W.nsIn K mainGlobals "_law_first" = some (some (.ref f10)))
    (l10 : K.lookup f10 = some ⟨oc10, od10, .func (PySem.W.fnOf "_law_first" "_law_first" (defArgs s_law_first) (defBody s_law_first) (defScope s_law_first) .none kV10 dc10 pm10 an10 cd10 ct10), sl10⟩)
    (c10 : PySem.W.codeIn K cd10 "_law_first" = true)
    (k10 : PySem.W.keepIn K (.ref f10) = true)
    (a11 : PySem.W.nsIn K mainGlobals "_law_pairs" = some (some (.ref f11)))
    (l11 : K.lookup f11 = some ⟨oc11, od11, .func (PySem.W.fnOf "_law_pairs" "_law_pairs" (defArgs s_law_pairs) (defBody s_law_pairs) (defScope s_law_pairs) .none kV11 dc11 pm11 an11 cd11 ct11), sl11⟩)
    (c11 : PySem.W.codeIn K cd11 "_law_pairs" = true)
    (k11 : PySem.W.keepIn K (.ref f11) = true)
    (a12 : PySem.W.nsIn K mainGlobals "_law_counted" = some (some (.ref f12)))
    (l12 : K.lookup f12 = some ⟨oc12, od12, .func (PySem.W.fnOf "_law_counted" "_law_counted" (defArgs s_law_counted) (defBody s_law_counted) (defScope s_law_counted) .none kV12 dc12 pm12 an12 cd12 ct12), sl12⟩)
    (c12 : PySem.W.codeIn K cd12 "_law_counted" = true)
    (k12 : PySem.W.keepIn K (.ref f12) = true)
    (a13 : PySem.W.nsIn K mainGlobals "law" = some (some (.ref f13)))
    (l13 : K.lookup f13 = some ⟨oc13, od13, .func (PySem.W.fnOf "law" "law" (defArgs s_law) (defBody s_law) (defScope s_law) .none kV13 dc13 pm13 an13 cd13 ct13), sl13⟩)
    (c13 : PySem.W.codeIn K cd13 "law" = true)
    (k13 : PySem.W.keepIn K (.ref f13) = true) :
    ∃ fd : FuncData, (∀ (s : Shared) (v : Value), BindsTo s fd ⟨[v], []⟩ [("_law_script", v)]) ∧ ∀ base : Heap, K.In base → base.Ns mainGlobals mg → FnOk l.prog w K mg base (L2.CX l.prog w) 28 fa fd ["_law_script"] (spLaw K) := by
  have e := hfa.symm.trans (PySem.W.mg_of X G a13)
  cases e
  have T : Top K mg := ⟨PySem.W.mg_none_of X G z0,
    PySem.W.mg_none_of X G z1,
    PySem.W.mg_none_of X G z2,
    PySem.W.mg_none_of X G z3,
    PySem.W.mg_none_of X G z4,
    PySem.W.mg_none_of X G z5,
    PySem.W.mg_none_of X G z6,
    PySem.W.mg_none_of X G z7,
    ⟨_, PySem.W.mg_of X G q0⟩,
    ⟨C0, PySem.W.mg_of X G ea0, eb0, ec0, ed0, ee0⟩,
    ⟨f0, _, fun_mk (st := s_is_number) l0 c0 k0, PySem.W.mg_of X G a0, (fun_mk (st := s_is_number) l0 c0 k0).binds (ps := ["thing", "least", "most"]) fun _ _ _ _ _ _ us hl => match us, hl with | [_, _, _], _ => rfl⟩,
    ⟨f1, _, fun_mk (st := s_asked_order) l1 c1 k1, PySem.W.mg_of X G a1, (fun_mk (st := s_asked_order) l1 c1 k1).binds (ps := ["order"]) fun _ _ _ _ _ _ us hl => match us, hl with | [_], _ => rfl⟩,
    ⟨f2, _, fun_mk (st := s_at_first) l2 c2 k2, PySem.W.mg_of X G a2, (fun_mk (st := s_at_first) l2 c2 k2).binds (ps := ["dancers"]) fun _ _ _ _ _ _ us hl => match us, hl with | [_], _ => rfl⟩,
    ⟨f3, _, fun_mk (st := s_stepped) l3 c3 k3, PySem.W.mg_of X G a3, (fun_mk (st := s_stepped) l3 c3 k3).binds (ps := ["order", "step"]) fun _ _ _ _ _ _ us hl => match us, hl with | [_, _], _ => rfl⟩,
    ⟨f4, _, fun_mk (st := s_ways_to) l4 c4 k4, PySem.W.mg_of X G a4, (fun_mk (st := s_ways_to) l4 c4 k4).binds (ps := ["order", "known"]) fun _ _ _ _ _ _ us hl => match us, hl with | [_, _], _ => rfl⟩,
    ⟨f5, _, fun_mk (st := s_how_many) l5 c5 k5, PySem.W.mg_of X G a5, (fun_mk (st := s_how_many) l5 c5 k5).binds (ps := ["order"]) fun _ _ _ _ _ _ us hl => match us, hl with | [_], _ => rfl⟩,
    ⟨f6, _, fun_mk (st := s_law_cell_at) l6 c6 k6, PySem.W.mg_of X G a6, (fun_mk (st := s_law_cell_at) l6 c6 k6).binds (ps := ["_law_script", "_law_k"]) fun _ _ _ _ _ _ us hl => match us, hl with | [_, _], _ => rfl⟩,
    ⟨f7, _, fun_mk (st := s_law_draw) l7 c7 k7, PySem.W.mg_of X G a7, (fun_mk (st := s_law_draw) l7 c7 k7).binds (ps := ["_law_cell", "_law_k", "_law_many"]) fun _ _ _ _ _ _ us hl => match us, hl with | [_, _, _], _ => rfl⟩,
    ⟨f8, _, fun_mk (st := s_law_order) l8 c8 k8, PySem.W.mg_of X G a8, (fun_mk (st := s_law_order) l8 c8 k8).binds (ps := ["_law_cell", "_law_dancers"]) fun _ _ _ _ _ _ us hl => match us, hl with | [_, _], _ => rfl⟩,
    ⟨f9, _, fun_mk (st := s_law_danced) l9 c9 k9, PySem.W.mg_of X G a9, (fun_mk (st := s_law_danced) l9 c9 k9).binds (ps := ["_law_order_here", "_law_dance"]) fun _ _ _ _ _ _ us hl => match us, hl with | [_, _], _ => rfl⟩,
    ⟨f10, _, fun_mk (st := s_law_first) l10 c10 k10, PySem.W.mg_of X G a10, (fun_mk (st := s_law_first) l10 c10 k10).binds (ps := ["_law_dancers"]) fun _ _ _ _ _ _ us hl => match us, hl with | [_], _ => rfl⟩,
    ⟨f11, _, fun_mk (st := s_law_pairs) l11 c11 k11, PySem.W.mg_of X G a11, (fun_mk (st := s_law_pairs) l11 c11 k11).binds (ps := ["_law_order_here"]) fun _ _ _ _ _ _ us hl => match us, hl with | [_], _ => rfl⟩,
    ⟨f12, _, fun_mk (st := s_law_counted) l12 c12 k12, PySem.W.mg_of X G a12, (fun_mk (st := s_law_counted) l12 c12 k12).binds (ps := ["_law_order_here"]) fun _ _ _ _ _ _ us hl => match us, hl with | [_], _ => rfl⟩,
    ⟨fa, _, fun_mk (st := s_law) l13 c13 k13, PySem.W.mg_of X G a13, (fun_mk (st := s_law) l13 c13 k13).binds (ps := ["_law_script"]) fun _ _ _ _ _ _ us hl => match us, hl with | [_], _ => rfl⟩⟩
  refine ⟨PySem.W.fnOf "law" "law" (defArgs s_law) (defBody s_law) (defScope s_law) .none kV13 dc13 pm13 an13 cd13 ct13, fun s v => .of_eq rfl, fun base _ _ => ?_⟩
  exact law_ok (law_fn T (fun_mk (st := s_law) l13 c13 k13)) law_true

end L_k12
end
open PySem PySem.W PyProof.Rows
set_option maxRecDepth 100000 in
set_option maxHeartbeats 0 in
theorem PySem.Challenge.cw_placechange_k12_whole_how_many_holds : PySem.Challenge.rw_placechange_k12_whole_how_many.Holds := by
  w_on; o_law; k_head; (case hw => w_witness2)
  k_fill
  refine L2.walk_of (l := PySem.Challenge.rw_placechange_k12_whole_how_many) (n := 63) (k := 28) (x := "_law_script") (CX := fun w => L2.CX (PySem.Challenge.rw_placechange_k12_whole_how_many).prog w) (sp := fun w => VL.spLaw _) rfl (by decide) rfl ⟨rfl, by decide, by decide⟩ (fun w h Y => PySem.W.kIn_of Y) ?F (fun _ _ a ns hl _ hS => ⟨a, ns, rfl, hS, hl, fun _ => rfl⟩) (fun _ _ _ _ _ h => VL.law_cx h)
  case F =>
    intro w mg fa h KX G hmg
    refine' L_k12.all_mk KX G hmg ?z0 ?z1 ?z2 ?z3 ?z4 ?z5 ?z6 ?z7 ?q0 ?ea0 ?eb0 ?ec0 ?ed0 ?ee0 ?a0 ?l0 ?c0 ?k0 ?a1 ?l1 ?c1 ?k1 ?a2 ?l2 ?c2 ?k2 ?a3 ?l3 ?c3 ?k3 ?a4 ?l4 ?c4 ?k4 ?a5 ?l5 ?c5 ?k5 ?a6 ?l6 ?c6 ?k6 ?a7 ?l7 ?c7 ?k7 ?a8 ?l8 ?c8 ?k8 ?a9 ?l9 ?c9 ?k9 ?a10 ?l10 ?c10 ?k10 ?a11 ?l11 ?c11 ?k11 ?a12 ?l12 ?c12 ?k12 ?a13 ?l13 ?c13 ?k13
    (case z0 => k_is)
    (case z1 => k_is)
    (case z2 => k_is)
    (case z3 => k_is)
    (case z4 => k_is)
    (case z5 => k_is)
    (case z6 => k_is)
    (case z7 => k_is)
    (case q0 => k_is)
    (case ea0 => k_is)
    (case eb0 => k_exc)
    (case ec0 => k_is)
    (case ed0 => k_is)
    (case ee0 => k_is)
    (case a0 => k_is)
    (case l0 => k_is)
    (case c0 => k_is)
    (case k0 => k_is)
    (case a1 => k_is)
    (case l1 => k_is)
    (case c1 => k_is)
    (case k1 => k_is)
    (case a2 => k_is)
    (case l2 => k_is)
    (case c2 => k_is)
    (case k2 => k_is)
    (case a3 => k_is)
    (case l3 => k_is)
    (case c3 => k_is)
    (case k3 => k_is)
    (case a4 => k_is)
    (case l4 => k_is)
    (case c4 => k_is)
    (case k4 => k_is)
    (case a5 => k_is)
    (case l5 => k_is)
    (case c5 => k_is)
    (case k5 => k_is)
    (case a6 => k_is)
    (case l6 => k_is)
    (case c6 => k_is)
    (case k6 => k_is)
    (case a7 => k_is)
    (case l7 => k_is)
    (case c7 => k_is)
    (case k7 => k_is)
    (case a8 => k_is)
    (case l8 => k_is)
    (case c8 => k_is)
    (case k8 => k_is)
    (case a9 => k_is)
    (case l9 => k_is)
    (case c9 => k_is)
    (case k9 => k_is)
    (case a10 => k_is)
    (case l10 => k_is)
    (case c10 => k_is)
    (case k10 => k_is)
    (case a11 => k_is)
    (case l11 => k_is)
    (case c11 => k_is)
    (case k11 => k_is)
    (case a12 => k_is)
    (case l12 => k_is)
    (case c12 => k_is)
    (case k12 => k_is)
    (case a13 => k_is)
    (case l13 => k_is)
    (case c13 => k_is)
    (case k13 => k_is)
