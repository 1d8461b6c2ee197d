import PyProof.Rows.All
import Wide.All
import OpenK.AllK
import Wide.FinOn
import HandS.ForMost
import HandS.ForExc
import HandS.ExcInit
import HandS.ExcField
import HandS.TryMany
import HandS.EndTab
import HandS.NestedK
import HandS.SortKw
import HandS.IsInst
import HandS.Deep
import HandS.Wide
import HandS.Remove
import KE.SortKeyHeap
import HandS.HeadHook4
import HandS.Conv
import KE.DataMinMax
import HandS.Style
import KE.DataMinKey
import HandS.HeadWalk
import HandS.Head2
import PySem.Challenge.RW_parcelbank_k25_bookings_taken_in_turn
set_option Elab.async false
set_option linter.all false
set_option maxRecDepth 100000
set_option maxHeartbeats 0
set_option autoImplicit false
/-! XL, part a: data in two heaps, slots, what an expression evaluates to. -/
namespace XL
open PySem L2
abbrev D := PyData
abbrev ExN (H H' : Hp) : Prop := LamX.ExtN H H'
abbrev Tbs := List (Addr × Str)

theorem ExN.rd {H H' : Hp} {a : Addr} {u : HO} (e : ExN H H') (hu : ∀ ps, u ≠ .tbl ps) (h : Rd H a u) : Rd H' a u := by
  rcases h with h | ⟨o, h⟩
  · exact .inl (e a _ h hu)
  · exact .inr ⟨o, e a _ h (fun ps z => by cases z)⟩
theorem ExN.sql {K : PySem.W.Frag} {H H' : Hp} {a : Addr} {xs : List V} (e : ExN H H') (h : SqL K H a xs) : SqL K H' a xs := by
  rcases h with h | h
  · exact .inl (e.rd (fun ps z => by cases z) h)
  · exact .inr h
theorem ExN.new {H : Hp} {p : Addr} {o : HO} (h : H p = none) : ExN H (upd H p o) := fun b u e _ => by
  rw [upd_ne (ne_of_none e h)]; exact e

/-- the script's own value: a list of ints that is read alone -/
abbrev scr (ns : List Int) : D := .dict [(.none, .list (ns.map .int))]

mutual
/-- v bears the datum d in the heap H -/
inductive Rp (K : PySem.W.Frag) (H : Hp) : V → D → Prop
  | non : Rp K H .non .none
  | bl (b : Bool) : Rp K H (.bl b) (.bool b)
  | int (i : Int) : Rp K H (.int i) (.int i)
  | str (x : Str) : Rp K H (.str x) (.str x)
  | lst {a : Addr} {vs : List V} {ds : List D} : H a = some (.lst vs) → RpAll K H vs ds → Rp K H (.ref a) (.list ds)
  | tup {a : Addr} {vs : List V} {ds : List D} : H a = some (.tup vs) → RpAll K H vs ds → Rp K H (.ref a) (.tuple ds)
  | scr {a : Addr} {ns : List Int} : SqL K H a (ns.map V.int) → Rp K H (.ref a) (.dict [(.none, .list (ns.map .int))])
inductive RpAll (K : PySem.W.Frag) (H : Hp) : List V → List D → Prop
  | nil : RpAll K H [] []
  | cons {v : V} {vs : List V} {d : D} {ds : List D} : Rp K H v d → RpAll K H vs ds → RpAll K H (v :: vs) (d :: ds)
end
section
variable {K : PySem.W.Frag} {H H' : Hp}
mutual
theorem Rp.mono (e : ExN H H') : ∀ {v : V} {d : D}, Rp K H v d → Rp K H' v d
  | _, _, .non => .non
  | _, _, .bl b => .bl b
  | _, _, .int i => .int i
  | _, _, .str x => .str x
  | _, _, .lst h r => .lst (e _ _ h fun ps z => by cases z) (RpAll.mono e r)
  | _, _, .tup h r => .tup (e _ _ h fun ps z => by cases z) (RpAll.mono e r)
  | _, _, .scr h => .scr (e.sql h)
theorem RpAll.mono (e : ExN H H') : ∀ {vs : List V} {ds : List D}, RpAll K H vs ds → RpAll K H' vs ds
  | _, _, .nil => .nil
  | _, _, .cons h r => .cons (Rp.mono e h) (RpAll.mono e r)
end
theorem RpAll.len : ∀ {vs : List V} {ds : List D}, RpAll K H vs ds → vs.length = ds.length
  | _, _, .nil => rfl
  | _, _, .cons _ r => by simp [RpAll.len r]
theorem RpAll.get : ∀ {vs : List V} {ds : List D} {i : Nat} {d : D}, RpAll K H vs ds → ds[i]? = some d → ∃ v, vs[i]? = some v ∧ Rp K H v d
  | _, _, _, _, .nil, e => by simp at e
  | _, _, 0, _, .cons h _, e => by simp at e; subst e; exact ⟨_, rfl, h⟩
  | _, _, i + 1, _, .cons _ r, e => by
    obtain ⟨v, h1, h2⟩ := RpAll.get (i := i) r (by simpa using e)
    exact ⟨v, by simpa using h1, h2⟩
theorem RpAll.getV : ∀ {vs : List V} {ds : List D} {i : Nat} {v : V}, RpAll K H vs ds → vs[i]? = some v → ∃ d, ds[i]? = some d ∧ Rp K H v d
  | _, _, _, _, .nil, e => by simp at e
  | _, _, 0, _, .cons h _, e => by simp at e; subst e; exact ⟨_, rfl, h⟩
  | _, _, i + 1, _, .cons _ r, e => by
    obtain ⟨v, h1, h2⟩ := RpAll.getV (i := i) r (by simpa using e)
    exact ⟨v, by simpa using h1, h2⟩
theorem RpAll.append : ∀ {vs ws : List V} {ds es : List D}, RpAll K H vs ds → RpAll K H ws es → RpAll K H (vs ++ ws) (ds ++ es)
  | _, _, _, _, .nil, s => s
  | _, _, _, _, .cons h r, s => .cons h (RpAll.append r s)
theorem RpAll.set {v : V} {d : D} (h : Rp K H v d) : ∀ {vs : List V} {ds : List D} (i : Nat), RpAll K H vs ds → RpAll K H (vs.set i v) (ds.set i d)
  | _, _, _, .nil => .nil
  | _, _, 0, .cons _ r => .cons h r
  | _, _, i + 1, .cons q r => .cons q (RpAll.set h i r)
theorem RpAll.take : ∀ {vs : List V} {ds : List D} (n : Nat), RpAll K H vs ds → RpAll K H (vs.take n) (ds.take n)
  | _, _, 0, _ => .nil
  | _, _, _ + 1, .nil => .nil
  | _, _, n + 1, .cons h r => .cons h (RpAll.take n r)
theorem RpAll.drop : ∀ {vs : List V} {ds : List D} (n : Nat), RpAll K H vs ds → RpAll K H (vs.drop n) (ds.drop n)
  | _, _, 0, r => r
  | _, _, _ + 1, .nil => .nil
  | _, _, n + 1, .cons _ r => RpAll.drop n r
theorem RpAll.rep {v : V} {d : D} (h : Rp K H v d) : ∀ n : Nat, RpAll K H (List.replicate n v) (List.replicate n d)
  | 0 => .nil
  | n + 1 => .cons h (RpAll.rep h n)
theorem RpAll.eraseIdx : ∀ {vs : List V} {ds : List D} (n : Nat), RpAll K H vs ds → RpAll K H (vs.eraseIdx n) (ds.eraseIdx n)
  | _, _, _, .nil => .nil
  | _, _, 0, .cons _ r => r
  | _, _, n + 1, .cons h r => .cons h (RpAll.eraseIdx n r)
mutual
theorem Rp.dp : ∀ {v : V} {d : D}, SeqAt.shaped d = true ∨ d.canLay0 = true → Rp K H v d → Dp K H v d
  | _, _, _, .non => .non
  | _, _, _, .bl b => .bl b
  | _, _, _, .int i => .int i
  | _, _, _, .str x => .str x
  | _, _, s, .lst h r => .lst (SqL.of h) (RpAll.dp (by
      rcases s with s | s
      · simpa [PyData.canLay0] using SeqAt.canLay_of_shaped s
      · simpa [PyData.canLay0] using s) r)
  | _, _, s, .tup h r => .tup (SqT.of h) (RpAll.dp (by
      rcases s with s | s
      · simpa [PyData.canLay0] using SeqAt.canLay_of_shaped s
      · simpa [PyData.canLay0] using s) r)
  | _, _, s, .scr h => by
      rcases s with s | s
      · simp [SeqAt.shaped, PyData.canLay0] at s
      · simp [PyData.canLay0] at s
theorem RpAll.dp : ∀ {vs : List V} {ds : List D}, PyData.canLayAll0 ds = true → RpAll K H vs ds → DpAll K H vs ds
  | _, _, _, .nil => .nil
  | _, _, s, .cons h r => by
    simp only [PyData.canLayAll0, Bool.and_eq_true] at s
    exact .cons (Rp.dp (.inr s.1) h) (RpAll.dp s.2 r)
end
end

/-! ### two heaps: B, what the data lean on; H, all that is tracked -/
structure Wf (T : Tbs) (B H : Hp) : Prop where
  bh : ExN B H
  bn : ∀ a, H a = none → B a = none
  tb : LamX.Tabs T H
structure Le (B H B' H' : Hp) : Prop where
  bb : ExN B B'
  hh : ExN H H'
  nn : ∀ a, H' a = none → H a = none
  fr : ∀ a, B a = none → B' a ≠ none → H a = none
section
variable {T : Tbs} {B H B' H' B'' H'' : Hp} {p : Addr} {o : HO}
theorem Le.refl (B H : Hp) : Le B H B H := ⟨LamX.ExtN.refl _, LamX.ExtN.refl _, fun _ h => h, fun _ h h' => absurd h h'⟩
theorem Le.trans (a : Le B H B' H') (b : Le B' H' B'' H'') : Le B H B'' H'' where
  bb := a.bb.trans b.bb
  hh := a.hh.trans b.hh
  nn := fun c h => a.nn c (b.nn c h)
  fr := fun c h h' => by
    by_cases q : B' c = none
    · exact a.nn c (b.fr c q h')
    · exact a.fr c h q
theorem Wf.full (w : Wf T B H) : Wf T H H := ⟨LamX.ExtN.refl _, fun _ h => h, w.tb⟩
theorem tabs_new (t : LamX.Tabs T H) (h : H p = none) : LamX.Tabs T (upd H p o) := t.ext fun b u e => by rw [upd_ne (ne_of_none e h)]; exact e
/-- a new object that the data may lean on -/
theorem Wf.both (w : Wf T B H) (h : H p = none) : Wf T (upd B p o) (upd H p o) where
  bh := fun b u e n => by
    by_cases q : b = p
    · subst q; rw [upd_same] at e ⊢; exact e
    · rw [upd_ne q] at e ⊢; exact w.bh b u e n
  bn := fun b e => by
    by_cases q : b = p
    · subst q; rw [upd_same] at e; cases e
    · rw [upd_ne q] at e ⊢; exact w.bn b e
  tb := tabs_new w.tb h
theorem Le.both (w : Wf T B H) (h : H p = none) : Le B H (upd B p o) (upd H p o) where
  bb := ExN.new (w.bn p h)
  hh := ExN.new h
  nn := fun b e => by
    by_cases q : b = p
    · subst q; exact h
    · rw [upd_ne q] at e; exact e
  fr := fun b e e' => by
    by_cases q : b = p
    · subst q; exact h
    · rw [upd_ne q] at e'; exact absurd e e'
/-- a new object apart from the data -/
theorem Wf.side (w : Wf T B H) (h : H p = none) : Wf T B (upd H p o) where
  bh := w.bh.trans (ExN.new h)
  bn := fun b e => by
    by_cases q : b = p
    · subst q; exact w.bn _ h
    · rw [upd_ne q] at e; exact w.bn b e
  tb := tabs_new w.tb h
theorem Le.side (h : H p = none) : Le B H B (upd H p o) where
  bb := LamX.ExtN.refl _
  hh := ExN.new h
  nn := fun b e => by
    by_cases q : b = p
    · subst q; exact h
    · rw [upd_ne q] at e; exact e
  fr := fun b e e' => absurd e e'
/-- what stood apart joins the data -/
theorem Wf.join (w : Wf T B H) (h : H p = some o) : Wf T (upd B p o) H where
  bh := fun b u e n => by
    by_cases q : b = p
    · subst q; rw [upd_same] at e; rw [h, e]
    · rw [upd_ne q] at e; exact w.bh b u e n
  bn := fun b e => by
    by_cases q : b = p
    · subst q; rw [h] at e; cases e
    · rw [upd_ne q]; exact w.bn b e
  tb := w.tb
/-- .. where it was new ahead of it -/
theorem Le.join {B0 H0 : Hp} (l : Le B0 H0 B H) (hb : B p = none) (h0 : H0 p = none) : Le B0 H0 (upd B p o) H where
  bb := l.bb.trans (ExN.new hb)
  hh := l.hh
  nn := l.nn
  fr := fun b e e' => by
    by_cases q : b = p
    · subst q; exact h0
    · rw [upd_ne q] at e'; exact l.fr b e e'
theorem tabs_mut {vs vs' : List V} (t : LamX.Tabs T H) (h : H p = some (.lst vs)) : LamX.Tabs T (upd H p (.lst vs')) := fun q hq => by
  obtain ⟨ps, h1, h2, h3⟩ := t q hq
  refine ⟨ps, by rw [upd_ne (ne_of h1 h (by intro z; cases z))]; exact h1, h2, fun pos cv hc => ?_⟩
  obtain ⟨c, e1, e2⟩ := h3 pos cv hc
  exact ⟨c, e1, by rw [upd_ne (ne_of e2 h (by intro z; unfold LamX.CodeO at z; cases z))]; exact e2⟩
/-- a list apart is changed -/
theorem Wf.mut {vs vs' : List V} (w : Wf T B H) (h : H p = some (.lst vs)) (hb : B p = none) : Wf T B (upd H p (.lst vs')) where
  bh := fun b u e n => by rw [upd_ne (ne_of_none e hb)]; exact w.bh b u e n
  bn := fun b e => by
    by_cases q : b = p
    · subst q; exact hb
    · rw [upd_ne q] at e; exact w.bn b e
  tb := tabs_mut w.tb h
theorem Le.mut {B0 H0 : Hp} {vs : List V} (l : Le B0 H0 B H) (h : H p = some (.lst vs)) (h0 : H0 p = none) : Le B0 H0 B (upd H p o) where
  bb := l.bb
  hh := fun b u e n => by rw [upd_ne (ne_of_none e h0)]; exact l.hh b u e n
  nn := fun b e => by
    by_cases q : b = p
    · subst q; exact h0
    · rw [upd_ne q] at e; exact l.nn b e
  fr := l.fr
theorem Le.keepB (l : Le B H B' H') (hb : B p = none) (h : H p = some o) : B' p = none := by
  cases q : B' p with
  | none => rfl
  | some u =>
    have z := l.fr p hb (by rw [q]; intro z; cases z)
    rw [h] at z; cases z
end

/-! ### slots -/
inductive Slot where
  | any
  | dat (d : D)
  | own (ds : List D)
def SlotOk (K : PySem.W.Frag) (H0 B H : Hp) (x : Option V) : Slot → Prop
  | .any => True
  | .dat d => ∃ v, x = some v ∧ Rp K B v d
  | .own ds => ∃ p vs, x = some (.ref p) ∧ H p = some (.lst vs) ∧ RpAll K B vs ds ∧ B p = none ∧ H0 p = none
structure Fm (T : Tbs) (K : PySem.W.Frag) (B0 H0 B H : Hp) (σ : L2.St) (ρ : List Slot) : Prop where
  wf : Wf T B H
  le : Le B0 H0 B H
  len : σ.length = ρ.length
  sl : ∀ (i : Nat) (s : Slot), ρ[i]? = some s → ∃ x, σ[i]? = some x ∧ SlotOk K H0 B H x s
  ap : ∀ (i j : Nat) (ds ds' : List D) (p : Addr), ρ[i]? = some (.own ds) → ρ[j]? = some (.own ds') → σ[i]? = some (some (.ref p)) → σ[j]? = some (some (.ref p)) → i = j
section
variable {T : Tbs} {K : PySem.W.Frag} {B0 H0 B H B' H' : Hp} {σ : L2.St} {ρ ρ' : List Slot} {i : Nat} {d : D} {ds : List D} {v : V}
theorem Fm.mono (F : Fm T K B0 H0 B H σ ρ) (w : Wf T B' H') (l : Le B H B' H') : Fm T K B0 H0 B' H' σ ρ where
  wf := w
  le := F.le.trans l
  len := F.len
  sl := fun i s e => by
    obtain ⟨x, hx, h⟩ := F.sl i s e
    refine ⟨x, hx, ?_⟩
    cases s with
    | any => trivial
    | dat d => obtain ⟨v, e1, r⟩ := h; exact ⟨v, e1, r.mono l.bb⟩
    | own ds =>
      obtain ⟨p, vs, e1, e2, r, e3, e4⟩ := h
      exact ⟨p, vs, e1, l.hh _ _ e2 (fun ps z => by cases z), r.mono l.bb, l.keepB e3 e2, e4⟩
  ap := F.ap
theorem Fm.dat (F : Fm T K B0 H0 B H σ ρ) (e : ρ[i]? = some (.dat d)) : ∃ v, σ[i]? = some (some v) ∧ Rp K B v d := by
  obtain ⟨x, hx, v, e1, r⟩ := F.sl i _ e
  exact ⟨v, by rw [hx, e1], r⟩
theorem Fm.own (F : Fm T K B0 H0 B H σ ρ) (e : ρ[i]? = some (.own ds)) : ∃ p vs, σ[i]? = some (some (.ref p)) ∧ H p = some (.lst vs) ∧ RpAll K B vs ds ∧ B p = none ∧ H0 p = none := by
  obtain ⟨x, hx, p, vs, e1, r⟩ := F.sl i _ e
  exact ⟨p, vs, by rw [hx, e1], r⟩
/-- a slot's assignment: a datum -/
theorem Fm.setD (F : Fm T K B0 H0 B H σ ρ) (r : Rp K B v d) : Fm T K B0 H0 B H (σ.set i (some v)) (ρ.set i (.dat d)) where
  wf := F.wf
  le := F.le
  len := by rw [List.length_set, List.length_set, F.len]
  sl := fun j s e => by
    by_cases q : i = j
    · subst q
      have hl : i < ρ.length := by
        have := (List.getElem?_eq_some_iff.mp e).1
        simpa using this
      rw [List.getElem?_set_self hl] at e
      cases e
      exact ⟨some v, List.getElem?_set_self (by rw [F.len]; exact hl), v, rfl, r⟩
    · rw [List.getElem?_set_ne q] at e ⊢
      exact F.sl j s e
  ap := fun a b ds ds' p ea eb sa sb => by
    have na : i ≠ a := fun z => by
      subst z
      have hl : i < ρ.length := by simpa using (List.getElem?_eq_some_iff.mp ea).1
      rw [List.getElem?_set_self hl] at ea; cases ea
    have nb : i ≠ b := fun z => by
      subst z
      have hl : i < ρ.length := by simpa using (List.getElem?_eq_some_iff.mp eb).1
      rw [List.getElem?_set_self hl] at eb; cases eb
    rw [List.getElem?_set_ne na] at ea sa
    rw [List.getElem?_set_ne nb] at eb sb
    exact F.ap a b ds ds' p ea eb sa sb
/-- a slot's assignment: a list of one's own, held by no other slot -/
theorem Fm.setO {p : Addr} {vs : List V} (F : Fm T K B0 H0 B H σ ρ) (e1 : H p = some (.lst vs)) (r : RpAll K B vs ds) (e2 : B p = none) (e3 : H0 p = none)
    (no : ∀ (j : Nat) (ds' : List D), j ≠ i → ρ[j]? = some (.own ds') → σ[j]? = some (some (.ref p)) → False) : Fm T K B0 H0 B H (σ.set i (some (.ref p))) (ρ.set i (.own ds)) where
  wf := F.wf
  le := F.le
  len := by rw [List.length_set, List.length_set, F.len]
  sl := fun j s e => by
    by_cases q : i = j
    · subst q
      have hl : i < ρ.length := by
        have := (List.getElem?_eq_some_iff.mp e).1
        simpa using this
      rw [List.getElem?_set_self hl] at e
      cases e
      exact ⟨_, List.getElem?_set_self (by rw [F.len]; exact hl), p, vs, rfl, e1, r, e2, e3⟩
    · rw [List.getElem?_set_ne q] at e ⊢
      exact F.sl j s e
  ap := fun a b ds1 ds2 q ea eb sa sb => by
    by_cases na : i = a
    · subst na
      by_cases nb : i = b
      · exact nb
      · have hl : i < σ.length := by
          have := (List.getElem?_eq_some_iff.mp sa).1
          simpa using this
        rw [List.getElem?_set_self hl] at sa
        cases sa
        rw [List.getElem?_set_ne nb] at eb sb
        exact (no b ds2 (Ne.symm nb) eb sb).elim
    · by_cases nb : i = b
      · subst nb
        have hl : i < σ.length := by
          have := (List.getElem?_eq_some_iff.mp sb).1
          simpa using this
        rw [List.getElem?_set_self hl] at sb
        cases sb
        rw [List.getElem?_set_ne na] at ea sa
        exact (no a ds1 (Ne.symm na) ea sa).elim
      · rw [List.getElem?_set_ne na] at ea sa
        rw [List.getElem?_set_ne nb] at eb sb
        exact F.ap a b ds1 ds2 q ea eb sa sb
/-- less is known -/
inductive Wk : List Slot → List Slot → Prop
  | nil : Wk [] []
  | any {s : Slot} {r r' : List Slot} : Wk r r' → Wk (s :: r) (.any :: r')
  | same {s : Slot} {r r' : List Slot} : Wk r r' → Wk (s :: r) (s :: r')
theorem Wk.refl : ∀ r : List Slot, Wk r r
  | [] => .nil
  | _ :: r => .same (Wk.refl r)
theorem Wk.len : ∀ {r r' : List Slot}, Wk r r' → r.length = r'.length
  | _, _, .nil => rfl
  | _, _, .any w => by simp [w.len]
  | _, _, .same w => by simp [w.len]
theorem Wk.get : ∀ {r r' : List Slot} {i : Nat} {s : Slot}, Wk r r' → r'[i]? = some s → s = .any ∨ r[i]? = some s
  | _, _, _, _, .nil, e => by simp at e
  | _, _, 0, _, .any _, e => by simp at e; exact .inl e.symm
  | _, _, 0, _, .same _, e => by simp at e; subst e; exact .inr rfl
  | _, _, i + 1, _, .any w, e => by simpa using w.get (i := i) (by simpa using e)
  | _, _, i + 1, _, .same w, e => by simpa using w.get (i := i) (by simpa using e)
theorem Fm.weak (F : Fm T K B0 H0 B H σ ρ) (w : Wk ρ ρ') : Fm T K B0 H0 B H σ ρ' where
  wf := F.wf
  le := F.le
  len := by rw [F.len, w.len]
  sl := fun i s e => by
    rcases w.get e with rfl | e'
    · have hl : i < σ.length := by rw [F.len, w.len]; exact (List.getElem?_eq_some_iff.mp e).1
      exact ⟨σ[i], List.getElem?_eq_getElem hl, trivial⟩
    · exact F.sl i s e'
  ap := fun i j ds ds' p ei ej si sj => by
    rcases w.get ei with z | e1
    · cases z
    · rcases w.get ej with z | e2
      · cases z
      · exact F.ap i j ds ds' p e1 e2 si sj
/-- a list of one's own becomes a datum -/
theorem Fm.freeze (F : Fm T K B0 H0 B H σ ρ) (e : ρ[i]? = some (.own ds)) : ∃ B1, ExN B B1 ∧ Fm T K B0 H0 B1 H σ (ρ.set i (.dat (.list ds))) := by
  obtain ⟨p, vs, hs, h1, r, h2, h3⟩ := F.own e
  have ex : ExN B (upd B p (.lst vs)) := ExN.new h2
  refine ⟨upd B p (.lst vs), ex, F.wf.join h1, F.le.join h2 h3, by rw [List.length_set, F.len], fun j s ej => ?_, fun a b ds1 ds2 q ea eb sa sb => ?_⟩
  · by_cases q : i = j
    · subst q
      have hl : i < ρ.length := by
        have := (List.getElem?_eq_some_iff.mp ej).1
        simpa using this
      rw [List.getElem?_set_self hl] at ej
      cases ej
      exact ⟨_, hs, _, rfl, .lst upd_same (r.mono ex)⟩
    · rw [List.getElem?_set_ne q] at ej
      obtain ⟨x, hx, h⟩ := F.sl j s ej
      refine ⟨x, hx, ?_⟩
      cases s with
      | any => trivial
      | dat d => obtain ⟨v, e1, r'⟩ := h; exact ⟨v, e1, r'.mono ex⟩
      | own es =>
        obtain ⟨p', vs', e1, e2, r', e3, e4⟩ := h
        have ne : p' ≠ p := fun z => by
          subst z
          exact q (F.ap i j ds es p' e ej hs (by rw [hx, e1]))
        exact ⟨p', vs', e1, e2, r'.mono ex, by rw [upd_ne ne]; exact e3, e4⟩
  · have na : i ≠ a := fun z => by
      subst z
      have hl : i < ρ.length := by simpa using (List.getElem?_eq_some_iff.mp ea).1
      rw [List.getElem?_set_self hl] at ea; cases ea
    have nb : i ≠ b := fun z => by
      subst z
      have hl : i < ρ.length := by simpa using (List.getElem?_eq_some_iff.mp eb).1
      rw [List.getElem?_set_self hl] at eb; cases eb
    rw [List.getElem?_set_ne na] at ea
    rw [List.getElem?_set_ne nb] at eb
    exact F.ap a b ds1 ds2 q ea eb sa sb
/-- a list of one's own is changed -/
theorem Fm.mut {vs' : List V} {p : Addr} {es : List D} (F : Fm T K B0 H0 B H σ ρ) (e : ρ[i]? = some (.own ds)) (hs : σ[i]? = some (some (.ref p))) (r : RpAll K B vs' es) : Fm T K B0 H0 B (upd H p (.lst vs')) σ (ρ.set i (.own es)) := by
  obtain ⟨p1, vs, hs1, h1, _, h2, h3⟩ := F.own e
  rw [hs] at hs1
  cases hs1
  refine ⟨F.wf.mut h1 h2, F.le.mut h1 h3, by rw [List.length_set, F.len], fun j s ej => ?_, fun a b ds1 ds2 q ea eb sa sb => ?_⟩
  · by_cases q : i = j
    · subst q
      have hl : i < ρ.length := by
        have := (List.getElem?_eq_some_iff.mp ej).1
        simpa using this
      rw [List.getElem?_set_self hl] at ej
      cases ej
      exact ⟨_, hs, p, vs', rfl, upd_same, r, h2, h3⟩
    · rw [List.getElem?_set_ne q] at ej
      obtain ⟨x, hx, h⟩ := F.sl j s ej
      refine ⟨x, hx, ?_⟩
      cases s with
      | any => trivial
      | dat d => exact h
      | own es =>
        obtain ⟨p', vs2, e1, e2, r', e3, e4⟩ := h
        have ne : p' ≠ p := fun z => by
          subst z
          exact q (F.ap i j ds es p' e ej hs (by rw [hx, e1]))
        exact ⟨p', vs2, e1, by rw [upd_ne ne]; exact e2, r', e3, e4⟩
  · have key : ∀ {c : Nat} {es' : List D}, (ρ.set i (.own es))[c]? = some (.own es') → ∃ es2, ρ[c]? = some (.own es2) := fun {c es'} h => by
      by_cases q : i = c
      · subst q; exact ⟨_, e⟩
      · rw [List.getElem?_set_ne q] at h; exact ⟨_, h⟩
    obtain ⟨e1, h1⟩ := key ea
    obtain ⟨e2, h2⟩ := key eb
    exact F.ap a b e1 e2 q h1 h2 sa sb
end
end XL
/-! XL, part b: what an expression evaluates to. -/
namespace XL
open PySem L2
abbrev VP := Hp → Hp → V → Prop
def Mono (P : VP) : Prop := ∀ (B H B' H' : Hp) (v : V), Le B H B' H' → P B H v → P B' H' v
abbrev pd (K : PySem.W.Frag) (d : D) : VP := fun B _ v => Rp K B v d
def pl (K : PySem.W.Frag) (ds : List D) : VP := fun B H v => ∃ p vs, v = .ref p ∧ H p = some (.lst vs) ∧ RpAll K B vs ds
def pt (K : PySem.W.Frag) (ds : List D) : VP := fun B H v => ∃ p vs, v = .ref p ∧ H p = some (.tup vs) ∧ RpAll K B vs ds
theorem mono_pd {K : PySem.W.Frag} {d : D} : Mono (pd K d) := fun _ _ _ _ _ l h => Rp.mono l.bb h
theorem mono_pl {K : PySem.W.Frag} {ds : List D} : Mono (pl K ds) := fun _ _ _ _ _ l ⟨p, vs, e, h, r⟩ => ⟨p, vs, e, l.hh _ _ h (fun ps z => by cases z), r.mono l.bb⟩
theorem mono_pt {K : PySem.W.Frag} {ds : List D} : Mono (pt K ds) := fun _ _ _ _ _ l ⟨p, vs, e, h, r⟩ => ⟨p, vs, e, l.hh _ _ h (fun ps z => by cases z), r.mono l.bb⟩

section
variable (T : Tbs) (K : PySem.W.Frag)
/-- what follows is shown for every value and every pair of heaps that P tells of -/
def Ret (B H : Hp) (P : VP) (Q : VK) : Prop := ∀ v B' H', Wf T B' H' → Le B H B' H' → P B' H' v → Q v H'
def EvV (t : TE) (ρ : List Slot) (P : VP) : Prop := ∀ (B0 H0 B H : Hp) (σ : L2.St), Fm T K B0 H0 B H σ ρ → ∀ Q : VK, Ret T B H P Q → t σ H Q
abbrev Ev (t : TE) (ρ : List Slot) (d : D) : Prop := EvV T K t ρ (pd K d)
abbrev EvL (t : TE) (ρ : List Slot) (ds : List D) : Prop := EvV T K t ρ (pl K ds)
def RetN (B H : Hp) (ds : List D) (Q : VK) : Prop := ∀ p vs B' H', Wf T B' H' → Le B H B' H' → H p = none → B' p = none → H' p = some (.lst vs) → RpAll K B' vs ds → Q (.ref p) H'
def EvN (t : TE) (ρ : List Slot) (ds : List D) : Prop := ∀ (B0 H0 B H : Hp) (σ : L2.St), Fm T K B0 H0 B H σ ρ → ∀ Q : VK, RetN T K B H ds Q → t σ H Q
def EvT (t : TT) (ρ : List Slot) (b : Bool) : Prop := ∀ (B0 H0 B H : Hp) (σ : L2.St), Fm T K B0 H0 B H σ ρ → ∀ Q : Bool → Hp → Prop, (∀ B' H', Wf T B' H' → Le B H B' H' → Q b H') → t σ H Q
def EvA (t : TA) (ρ : List Slot) (ds : List D) : Prop := ∀ (B0 H0 B H : Hp) (σ : L2.St), Fm T K B0 H0 B H σ ρ → ∀ Q : List V → Hp → Prop, (∀ vs B' H', Wf T B' H' → Le B H B' H' → RpAll K B' vs ds → Q vs H') → t σ H Q
/-- arguments that are to be read in the whole heap -/
def EvAH (t : TA) (ρ : List Slot) (ds : List D) : Prop := ∀ (B0 H0 B H : Hp) (σ : L2.St), Fm T K B0 H0 B H σ ρ → ∀ Q : List V → Hp → Prop, (∀ vs B' H', Wf T B' H' → Le B H B' H' → RpAll K H' vs ds → Q vs H') → t σ H Q
def EvO (t : TO) (ρ : List Slot) (o : Option Int) : Prop := ∀ (B0 H0 B H : Hp) (σ : L2.St), Fm T K B0 H0 B H σ ρ → ∀ Q : Option Int → Hp → Prop, (∀ B' H', Wf T B' H' → Le B H B' H' → Q o H') → t σ H Q
def RD2 (r : R2) (P1 P2 P3 : VP) : Prop := ∀ (B H : Hp) (x y : V), Wf T B H → P1 B H x → P2 B H y → ∀ Q : VK, Ret T B H P3 Q → r x y H Q
def RD2N (r : R2) (P1 P2 : VP) (ds : List D) : Prop := ∀ (B H : Hp) (x y : V), Wf T B H → P1 B H x → P2 B H y → ∀ Q : VK, RetN T K B H ds Q → r x y H Q
def RD1 (r : V → Hp → VK → Prop) (P1 P3 : VP) : Prop := ∀ (B H : Hp) (x : V), Wf T B H → P1 B H x → ∀ Q : VK, Ret T B H P3 Q → r x H Q
/-- a call by one argument, two -/
def RA1 (r : List V → Hp → VK → Prop) (P1 P3 : VP) : Prop := ∀ (B H : Hp) (x : V), Wf T B H → P1 B H x → ∀ Q : VK, Ret T B H P3 Q → r [x] H Q
def RA1N (r : List V → Hp → VK → Prop) (P1 : VP) (ds : List D) : Prop := ∀ (B H : Hp) (x : V), Wf T B H → P1 B H x → ∀ Q : VK, RetN T K B H ds Q → r [x] H Q
def RA2 (r : List V → Hp → VK → Prop) (P1 P2 P3 : VP) : Prop := ∀ (B H : Hp) (x y : V), Wf T B H → P1 B H x → P2 B H y → ∀ Q : VK, Ret T B H P3 Q → r [x, y] H Q
end

section
variable {T : Tbs} {K : PySem.W.Frag} {ρ : List Slot} {ta tb te : TE} {P P1 P2 P3 : VP} {d : D} {ds es : List D} {i : Nat} {B H B' H' : Hp}
theorem Ret.here {Q : VK} {v : V} (w : Wf T B H) (k : Ret T B H P Q) (h : P B H v) : Q v H := k v B H w (Le.refl B H) h
theorem Ret.at {Q : VK} (k : Ret T B H P Q) (l : Le B H B' H') : Ret T B' H' P Q := fun v B2 H2 w l2 h => k v B2 H2 w (l.trans l2) h
theorem RetN.at {Q : VK} (k : RetN T K B H ds Q) (l : Le B H B' H') : RetN T K B' H' ds Q := fun p vs B2 H2 w l2 h1 h2 h3 r => k p vs B2 H2 w (l.trans l2) (l.nn p h1) h2 h3 r
/-- a list just laid -/
theorem RetN.lay {Q : VK} {p : Addr} {vs : List V} (w : Wf T B H) (k : RetN T K B H ds Q) (hp : H p = none) (r : RpAll K B vs ds) : Q (.ref p) (upd H p (.lst vs)) :=
  k p vs B _ (w.side hp) (Le.side hp) hp (w.bn p hp) upd_same r
/-- a tuple just laid -/
theorem Ret.layT {Q : VK} {p : Addr} {vs : List V} (w : Wf T B H) (k : Ret T B H (pd K (.tuple ds)) Q) (hp : H p = none) (r : RpAll K B vs ds) : Q (.ref p) (upd H p (.tup vs)) :=
  k _ (upd B p (.tup vs)) _ (w.both hp) (Le.both w hp) (.tup upd_same (r.mono (ExN.new (w.bn p hp))))
theorem RetN.ofD {Q : VK} (k : Ret T B H (pd K (.list ds)) Q) : RetN T K B H ds Q := fun p vs B' H' w l h0 hb h r =>
  k _ (upd B' p (.lst vs)) H' (w.join h) (l.join hb h0) (.lst upd_same (r.mono (ExN.new hb)))
theorem RetN.ofL {Q : VK} (k : Ret T B H (pl K ds) Q) : RetN T K B H ds Q := fun p vs B' H' w l h0 hb h r => k _ B' H' w l ⟨p, vs, rfl, h, r⟩
theorem EvN.toD (h : EvN T K te ρ ds) : Ev T K te ρ (.list ds) := fun B0 H0 B H σ F Q k => h B0 H0 B H σ F Q (RetN.ofD k)
theorem EvN.toL (h : EvN T K te ρ ds) : EvL T K te ρ ds := fun B0 H0 B H σ F Q k => h B0 H0 B H σ F Q (RetN.ofL k)
theorem Ev.toL (h : Ev T K te ρ (.list ds)) : EvL T K te ρ ds := fun B0 H0 B H σ F Q k => h B0 H0 B H σ F Q fun v B' H' w l r => by
  cases r with
  | lst e r => exact k _ B' H' w l ⟨_, _, rfl, w.bh _ _ e (fun ps z => by cases z), r⟩
theorem Ev.toT (h : Ev T K te ρ (.tuple ds)) : EvV T K te ρ (pt K ds) := fun B0 H0 B H σ F Q k => h B0 H0 B H σ F Q fun v B' H' w l r => by
  cases r with
  | tup e r => exact k _ B' H' w l ⟨_, _, rfl, w.bh _ _ e (fun ps z => by cases z), r⟩
theorem EvV.is {d' : D} (h : Ev T K te ρ d) (e : d = d') : Ev T K te ρ d' := e ▸ h
theorem EvN.is {ds' : List D} (h : EvN T K te ρ ds) (e : ds = ds') : EvN T K te ρ ds' := e ▸ h

theorem ev_var (e : ρ[i]? = some (.dat d)) : Ev T K (tVar i) ρ d := fun B0 H0 B H σ F Q k => by
  obtain ⟨v, hs, r⟩ := F.dat e
  exact ⟨v, hs, k.here F.wf r⟩
theorem evl_own (e : ρ[i]? = some (.own ds)) : EvL T K (tVar i) ρ ds := fun B0 H0 B H σ F Q k => by
  obtain ⟨p, vs, hs, h1, r, _⟩ := F.own e
  exact ⟨_, hs, k.here F.wf ⟨p, vs, rfl, h1, r⟩⟩
theorem ev_c {v : V} (h : ∀ B, Rp K B v d) : Ev T K (tC v) ρ d := fun B0 H0 B H σ F Q k => k.here F.wf (h B)
theorem ev_int {n : Int} : Ev T K (tC (.int n)) ρ (.int n) := ev_c fun _ => .int n
theorem ev_bl {b : Bool} : Ev T K (tC (.bl b)) ρ (.bool b) := ev_c fun _ => .bl b
theorem ev_str {x : Str} : Ev T K (tC (.str x)) ρ (.str x) := ev_c fun _ => .str x
theorem ev_non : Ev T K (tC .non) ρ .none := ev_c fun _ => .non
theorem ev_op {r : R2} (m : Mono P1) (ha : EvV T K ta ρ P1) (hb : EvV T K tb ρ P2) (hr : RD2 T r P1 P2 P3) : EvV T K (tOp r ta tb) ρ P3 := fun B0 H0 B H σ F Q k =>
  ha B0 H0 B H σ F _ fun x B1 H1 w1 l1 p1 => hb B0 H0 B1 H1 σ (F.mono w1 l1) _ fun y B2 H2 w2 l2 p2 => hr B2 H2 x y w2 (m _ _ _ _ _ l2 p1) p2 Q (k.at (l1.trans l2))
theorem evn_op {r : R2} (m : Mono P1) (ha : EvV T K ta ρ P1) (hb : EvV T K tb ρ P2) (hr : RD2N T K r P1 P2 ds) : EvN T K (tOp r ta tb) ρ ds := fun B0 H0 B H σ F Q k =>
  ha B0 H0 B H σ F _ fun x B1 H1 w1 l1 p1 => hb B0 H0 B1 H1 σ (F.mono w1 l1) _ fun y B2 H2 w2 l2 p2 => hr B2 H2 x y w2 (m _ _ _ _ _ l2 p1) p2 Q (k.at (l1.trans l2))
theorem ev_un {r : V → Hp → VK → Prop} (ha : EvV T K ta ρ P1) (hr : RD1 T r P1 P3) : EvV T K (tUn r ta) ρ P3 := fun B0 H0 B H σ F Q k =>
  ha B0 H0 B H σ F _ fun x B1 H1 w1 l1 p1 => hr B1 H1 x w1 p1 Q (k.at l1)
theorem ev_b1 {r : List V → Hp → VK → Prop} (ha : EvV T K ta ρ P1) (hr : RA1 T r P1 P3) : EvV T K (tCB r (tCons ta tNil)) ρ P3 := fun B0 H0 B H σ F Q k =>
  ha B0 H0 B H σ F _ fun x B1 H1 w1 l1 p1 => hr B1 H1 x w1 p1 Q (k.at l1)
theorem evn_b1 {r : List V → Hp → VK → Prop} (ha : EvV T K ta ρ P1) (hr : RA1N T K r P1 ds) : EvN T K (tCB r (tCons ta tNil)) ρ ds := fun B0 H0 B H σ F Q k =>
  ha B0 H0 B H σ F _ fun x B1 H1 w1 l1 p1 => hr B1 H1 x w1 p1 Q (k.at l1)
theorem ev_b2 {r : List V → Hp → VK → Prop} (m : Mono P1) (ha : EvV T K ta ρ P1) (hb : EvV T K tb ρ P2) (hr : RA2 T r P1 P2 P3) : EvV T K (tCB r (tCons ta (tCons tb tNil))) ρ P3 := fun B0 H0 B H σ F Q k =>
  ha B0 H0 B H σ F _ fun x B1 H1 w1 l1 p1 => hb B0 H0 B1 H1 σ (F.mono w1 l1) _ fun y B2 H2 w2 l2 p2 => hr B2 H2 x y w2 (m _ _ _ _ _ l2 p1) p2 Q (k.at (l1.trans l2))

/-! arguments, displays -/
theorem ea_nil : EvA T K tNil ρ [] := fun B0 H0 B H σ F Q k => k [] B H F.wf (Le.refl B H) .nil
theorem ea_cons {tr : TA} (h : Ev T K te ρ d) (hr : EvA T K tr ρ ds) : EvA T K (tCons te tr) ρ (d :: ds) := fun B0 H0 B H σ F Q k =>
  h B0 H0 B H σ F _ fun x B1 H1 w1 l1 p1 => hr B0 H0 B1 H1 σ (F.mono w1 l1) _ fun vs B2 H2 w2 l2 r => k _ B2 H2 w2 (l1.trans l2) (.cons (p1.mono l2.bb) r)
theorem EvA.toH {t : TA} (h : EvA T K t ρ ds) : EvAH T K t ρ ds := fun B0 H0 B H σ F Q k => h B0 H0 B H σ F Q fun vs B' H' w l r => k vs B' H' w l (r.mono w.bh)
theorem eh_cons {tr : TA} (h : Ev T K te ρ d) (hr : EvAH T K tr ρ ds) : EvAH T K (tCons te tr) ρ (d :: ds) := fun B0 H0 B H σ F Q k =>
  h B0 H0 B H σ F _ fun x B1 H1 w1 l1 p1 => hr B0 H0 B1 H1 σ (F.mono w1 l1) _ fun vs B2 H2 w2 l2 r => k _ B2 H2 w2 (l1.trans l2) (.cons ((p1.mono w1.bh).mono l2.hh) r)
theorem eh_consL {tr : TA} (h : EvL T K te ρ es) (hr : EvAH T K tr ρ ds) : EvAH T K (tCons te tr) ρ (.list es :: ds) := fun B0 H0 B H σ F Q k =>
  h B0 H0 B H σ F _ fun x B1 H1 w1 l1 p1 => hr B0 H0 B1 H1 σ (F.mono w1 l1) _ fun vs B2 H2 w2 l2 r => by
    obtain ⟨p, us, rfl, e, r1⟩ := p1
    exact k _ B2 H2 w2 (l1.trans l2) (.cons (.lst (l2.hh _ _ e (fun ps z => by cases z)) ((r1.mono w1.bh).mono l2.hh)) r)
theorem eh_nil : EvAH T K tNil ρ [] := ea_nil.toH
theorem ev_tup {t : TA} (h : EvA T K t ρ ds) (hl : ds.length ≤ 100000) : Ev T K (tTup t) ρ (.tuple ds) := fun B0 H0 B H σ F Q k =>
  h B0 H0 B H σ F _ fun vs B1 H1 w1 l1 r => ⟨by rw [r.len]; exact Nat.le_trans hl (by decide), fun p hp => (k.at l1).layT w1 hp r⟩
theorem evn_lst {t : TA} (h : EvA T K t ρ ds) (hl : ds.length ≤ 100000) : EvN T K (tLst t) ρ ds := fun B0 H0 B H σ F Q k =>
  h B0 H0 B H σ F _ fun vs B1 H1 w1 l1 r => ⟨by rw [r.len]; exact Nat.le_trans hl (by decide), fun p hp => (k.at l1).lay w1 hp r⟩

/-! tests -/
theorem et_test {b : Bool} (h : Ev T K te ρ (.bool b)) : EvT T K (tTest te) ρ b := fun B0 H0 B H σ F Q k => h B0 H0 B H σ F _ fun v B' H' w l r => by
  cases r; exact ⟨b, rfl, k B' H' w l⟩
theorem et_B {b : Bool} (h : Ev T K te ρ (.bool b)) : EvT T K (tB te) ρ b := fun B0 H0 B H σ F Q k => h B0 H0 B H σ F _ fun v B' H' w l r => by
  cases r; exact ⟨b, rfl, k B' H' w l⟩
theorem et_yes : EvT T K tYes ρ true := fun B0 H0 B H σ F Q k => k B H F.wf (Le.refl B H)
section
variable {t u : TT} {a b : Bool}
theorem EvT.is (h : EvT T K t ρ a) (e : a = b) : EvT T K t ρ b := e ▸ h
theorem et_and (h1 : EvT T K t ρ a) (h2 : a = true → EvT T K u ρ b) : EvT T K (tAnd t u) ρ (a && b) := fun B0 H0 B H σ F Q k => h1 B0 H0 B H σ F _ fun B1 H1 w1 l1 => by
  cases a with
  | true => exact h2 rfl B0 H0 B1 H1 σ (F.mono w1 l1) Q fun B2 H2 w2 l2 => k B2 H2 w2 (l1.trans l2)
  | false => exact k B1 H1 w1 l1
theorem et_or (h1 : EvT T K t ρ a) (h2 : a = false → EvT T K u ρ b) : EvT T K (tOr t u) ρ (a || b) := fun B0 H0 B H σ F Q k => h1 B0 H0 B H σ F _ fun B1 H1 w1 l1 => by
  cases a with
  | false => exact h2 rfl B0 H0 B1 H1 σ (F.mono w1 l1) Q fun B2 H2 w2 l2 => k B2 H2 w2 (l1.trans l2)
  | true => exact k B1 H1 w1 l1
theorem et_not (h1 : EvT T K t ρ a) : EvT T K (tNot t) ρ (!a) := fun B0 H0 B H σ F Q k => h1 B0 H0 B H σ F _ fun B1 H1 w1 l1 => k B1 H1 w1 l1
theorem ev_andV (h1 : Ev T K ta ρ (.bool a)) (h2 : a = true → Ev T K tb ρ (.bool b)) : Ev T K (tAndV ta tb) ρ (.bool (a && b)) := fun B0 H0 B H σ F Q k => h1 B0 H0 B H σ F _ fun v B1 H1 w1 l1 r => by
  cases r
  refine ⟨a, rfl, ?_⟩
  cases a with
  | true => exact h2 rfl B0 H0 B1 H1 σ (F.mono w1 l1) Q (k.at l1)
  | false => exact k _ B1 H1 w1 l1 (.bl _)
theorem ev_orV (h1 : Ev T K ta ρ (.bool a)) (h2 : a = false → Ev T K tb ρ (.bool b)) : Ev T K (tOrV ta tb) ρ (.bool (a || b)) := fun B0 H0 B H σ F Q k => h1 B0 H0 B H σ F _ fun v B1 H1 w1 l1 r => by
  cases r
  refine ⟨a, rfl, ?_⟩
  cases a with
  | false => exact h2 rfl B0 H0 B1 H1 σ (F.mono w1 l1) Q (k.at l1)
  | true => exact k _ B1 H1 w1 l1 (.bl _)
theorem ev_notV (h1 : Ev T K ta ρ (.bool a)) : Ev T K (tNotV ta) ρ (.bool (!a)) := fun B0 H0 B H σ F Q k => h1 B0 H0 B H σ F _ fun v B1 H1 w1 l1 r => by
  cases r
  exact ⟨a, rfl, k _ B1 H1 w1 l1 (.bl _)⟩
theorem ev_if (h : EvT T K t ρ a) (h1 : a = true → EvV T K ta ρ P) (h2 : a = false → EvV T K tb ρ P) : EvV T K (tIf t ta tb) ρ P := fun B0 H0 B H σ F Q k => h B0 H0 B H σ F _ fun B1 H1 w1 l1 => by
  cases a with
  | true => exact h1 rfl B0 H0 B1 H1 σ (F.mono w1 l1) Q (k.at l1)
  | false => exact h2 rfl B0 H0 B1 H1 σ (F.mono w1 l1) Q (k.at l1)
theorem ev_ifD {d1 d2 : D} (h : EvT T K t ρ a) (h1 : a = true → Ev T K ta ρ d1) (h2 : a = false → Ev T K tb ρ d2) : Ev T K (tIf t ta tb) ρ (if a = true then d1 else d2) :=
  ev_if h (fun e => by rw [if_pos e]; exact h1 e) (fun e => by rw [e]; exact h2 e)
end
/-! slices -/
theorem eo_none : EvO T K tNoPart ρ none := fun B0 H0 B H σ F Q k => k B H F.wf (Le.refl B H)
theorem eo_some {n : Int} (h : Ev T K te ρ (.int n)) : EvO T K (tPart te) ρ (some n) := fun B0 H0 B H σ F Q k => h B0 H0 B H σ F _ fun v B' H' w l r => by
  cases r; exact ⟨n, rfl, k B' H' w l⟩
/-- the items of a slice -/
def cut {α : Type} (xs : List α) (lo hi : Option Int) : List α := (xs.drop (HT.sIx xs.length 0 lo)).take (HT.sIx xs.length xs.length hi - HT.sIx xs.length 0 lo)
theorem cut_map {α β : Type} (f : α → β) (xs : List α) (lo hi : Option Int) : cut (xs.map f) lo hi = (cut xs lo hi).map f := by
  unfold cut
  rw [List.length_map, List.map_take, List.map_drop]
theorem RpAll.cut {B : Hp} {vs : List V} {ds : List D} (r : RpAll K B vs ds) (lo hi : Option Int) : RpAll K B (cutV vs lo hi) (XL.cut ds lo hi) := by
  unfold cutV XL.cut
  rw [r.len]
  exact (r.drop _).take _
def rSL (K : PySem.W.Frag) : V → Option Int → Option Int → Hp → VK → Prop := fun x lo hi H Q => rSlL K x lo hi H Q ∨ rSlS x lo hi H Q
theorem sl_any {X : Cx} : SlR X (rSL X.K) := sl_list.or sl_str
theorem evn_sl {tl th : TO} {lo hi : Option Int} (h : EvL T K te ρ ds) (h1 : EvO T K tl ρ lo) (h2 : EvO T K th ρ hi) : EvN T K (tSl (rSL K) te tl th) ρ (cut ds lo hi) := fun B0 H0 B H σ F Q k =>
  h B0 H0 B H σ F _ fun x B1 H1 w1 l1 p1 => h1 B0 H0 B1 H1 σ (F.mono w1 l1) _ fun B2 H2 w2 l2 => h2 B0 H0 B2 H2 σ (F.mono w2 (l1.trans l2)) _ fun B3 H3 w3 l3 => by
    obtain ⟨p, vs, rfl, e, r⟩ := mono_pl _ _ _ _ _ (l2.trans l3) p1
    exact .inl ⟨p, vs, rfl, SqL.of e, fun q hq => (k.at ((l1.trans l2).trans l3)).lay w3 hq (r.cut lo hi)⟩
theorem ev_slS {tl th : TO} {lo hi : Option Int} {x : Str} (h : Ev T K te ρ (.str x)) (hx : x.length ≤ 100000) (h1 : EvO T K tl ρ lo) (h2 : EvO T K th ρ hi) : Ev T K (tSl (rSL K) te tl th) ρ (.str (cutS x lo hi)) := fun B0 H0 B H σ F Q k =>
  h B0 H0 B H σ F _ fun v B1 H1 w1 l1 p1 => h1 B0 H0 B1 H1 σ (F.mono w1 l1) _ fun B2 H2 w2 l2 => h2 B0 H0 B2 H2 σ (F.mono w2 (l1.trans l2)) _ fun B3 H3 w3 l3 => by
    cases p1
    exact .inr ⟨x, rfl, Nat.le_trans hx (by decide), k _ B3 H3 w3 ((l1.trans l2).trans l3) (.str _)⟩
end
end XL
/-! XL, part c: operations by data. -/
namespace XL
open PySem L2
theorem OpR.or {X : Cx} {f : Value → Value → Sem Value} {r r' : R2} (h : OpR X f r) (h' : OpR X f r') : OpR X f (fun x y H Q => r x y H Q ∨ r' x y H Q) := by
  intro pins s σ H x y v u Q I rx ry q
  rcases q with q | q
  · exact h pins s σ H x y v u Q I rx ry q
  · exact h' pins s σ H x y v u Q I rx ry q
theorem CallR.or {X : Cx} {f : Value} {r r' : List V → Hp → VK → Prop} (h : CallR X f r) (h' : CallR X f r') : CallR X f (fun xs H Q => r xs H Q ∨ r' xs H Q) := by
  intro pins s σ H xs us Q I r1 q
  rcases q with q | q
  · exact h pins s σ H xs us Q I r1 q
  · exact h' pins s σ H xs us Q I r1 q
abbrev rCatS : R2 := fun x y H Q => ∃ i j, x = .str i ∧ y = .str j ∧ i.length + j.length ≤ sizeLine ∧ Q (.str (i ++ j)) H
def rAdd (K : PySem.W.Frag) : R2 := fun x y H Q => rI0 (fun i j => .int (i + j)) x y H Q ∨ (rCat x y H Q ∨ (rCatS x y H Q ∨ rCatT K x y H Q))
theorem o_add {X : Cx} : OpR X (binaryOp .Add) (rAdd X.K) := OpR.or op_add (OpR.or op_cat (OpR.or op_add_str op_catT))
def rSub : R2 := rI0 fun i j => .int (i - j)
theorem o_sub {X : Cx} : OpR X (binaryOp .Sub) rSub := op_sub
def rMul : R2 := fun x y H Q => rI CMul (fun i j => .int (i * j)) x y H Q ∨ rRep x y H Q
theorem o_mul {X : Cx} : OpR X (binaryOp .Mult) rMul := OpR.or op_mul op_rep
def rDiv : R2 := rI CDiv fun i j => .int (i / j)
theorem o_div {X : Cx} : OpR X (binaryOp .FloorDiv) rDiv := op_fdiv
def rMod : R2 := rI (fun _ j => 0 < j) fun i j => .int (i % j)
theorem o_mod {X : Cx} : OpR X (binaryOp .Mod) rMod := op_mod
def rPow : R2 := rI CPow fun i j => .int (i ^ j.toNat)
theorem o_pow {X : Cx} : OpR X (binaryOp .Pow) rPow := op_pow
def rLt : R2 := rI0 fun i j => .bl (decide (i < j))
def rLe : R2 := rI0 fun i j => .bl (decide (i ≤ j))
def rGt : R2 := rI0 fun i j => .bl (decide (j < i))
def rGe : R2 := rI0 fun i j => .bl (decide (j ≤ i))
theorem o_lt {X : Cx} : OpR X (compareOp .Lt) rLt := op_lt
theorem o_le {X : Cx} : OpR X (compareOp .LtE) rLe := op_le
theorem o_gt {X : Cx} : OpR X (compareOp .Gt) rGt := op_gt
theorem o_ge {X : Cx} : OpR X (compareOp .GtE) rGe := op_ge
def rIsN : R2 := fun x y H Q => y = .non ∧ Q (.bl (decide (x = .non))) H
def rNotN : R2 := fun x y H Q => y = .non ∧ Q (.bl (!decide (x = .non))) H
theorem o_isN {X : Cx} : OpR X (compareOp .Is) rIsN := op_isN
theorem o_notN {X : Cx} : OpR X (compareOp .IsNot) rNotN := op_notN
abbrev rInS (neg : Bool) : R2 := fun x y H Q => ∃ i j, x = .str i ∧ y = .str j ∧ Q (.bl (if neg then !(!(Builtin.Str.occurrences j i 0 j.length 1).isEmpty) else !(Builtin.Str.occurrences j i 0 j.length 1).isEmpty)) H
def rInA (K : PySem.W.Frag) (neg : Bool) : R2 := fun x y H Q => rIn K neg x y H Q ∨ rInS neg x y H Q
theorem o_in {X : Cx} : OpR X (compareOp .In) (rInA X.K false) := OpR.or op_in_seq op_in_str
theorem o_notin {X : Cx} : OpR X (compareOp .NotIn) (rInA X.K true) := OpR.or op_notIn_seq op_notin_str
def rLen (K : PySem.W.Frag) : List V → Hp → VK → Prop := fun xs H Q => ∃ x n, xs = [x] ∧ LenV K x H n ∧ Q (.int n) H
theorem c_len {X : Cx} : CallR X (.builtin "len") (rLen X.K) := call_len
def rAbs : List V → Hp → VK → Prop := fun xs H Q => ∃ i, xs = [.int i] ∧ Q (.int (if i < 0 then -i else i)) H
theorem c_abs {X : Cx} : CallR X (.builtin "abs") rAbs := call_abs
def rInt : List V → Hp → VK → Prop := fun xs H Q => (∃ i, xs = [.int i] ∧ Q (.int i) H) ∨ ∃ k, xs = [.bl k] ∧ Q (.int (if k then 1 else 0)) H
theorem c_int {X : Cx} : CallR X (.type "int") rInt := call_int1
def rMx (K : PySem.W.Frag) : List V → Hp → VK → Prop := fun xs H Q => rMax K xs H Q ∨ ∃ i j, xs = [.int i, .int j] ∧ Q (.int (if j > i then j else i)) H
theorem c_max {X : Cx} (hc : X.calm = true) : CallR X (.builtin "max") (rMx X.K) := CallR.or (cr_max hc) (call_max2 hc)
def rMn (K : PySem.W.Frag) : List V → Hp → VK → Prop := fun xs H Q => rMin K xs H Q ∨ ∃ i j, xs = [.int i, .int j] ∧ Q (.int (if j < i then j else i)) H
theorem c_min {X : Cx} (hc : X.calm = true) : CallR X (.builtin "min") (rMn X.K) := CallR.or (cr_min hc) (call_min2 hc)
def rLst (K : PySem.W.Frag) : List V → Hp → VK → Prop := fun xs H Q => ∃ p ys, xs = [.ref p] ∧ (SqL K H p ys ∨ SqT K H p ys) ∧ ∀ l, H l = none → Q (.ref l) (upd H l (.lst ys))
theorem c_list {X : Cx} : CallR X (.type "list") (rLst X.K) := call_list_of
def rTpl (K : PySem.W.Frag) : List V → Hp → VK → Prop := fun xs H Q => ∃ p ys, xs = [.ref p] ∧ ((SqL K H p ys ∧ ∀ l, H l = none → Q (.ref l) (upd H l (.tup ys))) ∨ (SqT K H p ys ∧ Q (.ref p) H))
theorem c_tuple {X : Cx} : CallR X (.type "tuple") (rTpl X.K) := call_tuple_of

section
variable {T : Tbs} {K : PySem.W.Frag} {d e : D} {ds es : List D} {i j : Int}
theorem rd_I0i {f : Int → Int → Int} : RD2 T (rI0 fun i j => .int (f i j)) (pd K (.int i)) (pd K (.int j)) (pd K (.int (f i j))) := fun B H x y w h1 h2 Q k => by
  cases h1; cases h2
  exact ⟨i, j, rfl, rfl, k.here w (.int _)⟩
theorem rd_I0b {f : Int → Int → Bool} : RD2 T (rI0 fun i j => .bl (f i j)) (pd K (.int i)) (pd K (.int j)) (pd K (.bool (f i j))) := fun B H x y w h1 h2 Q k => by
  cases h1; cases h2
  exact ⟨i, j, rfl, rfl, k.here w (.bl _)⟩
theorem rd_Ii {C : Int → Int → Prop} {f : Int → Int → Int} (hc : C i j) : RD2 T (rI C fun i j => .int (f i j)) (pd K (.int i)) (pd K (.int j)) (pd K (.int (f i j))) := fun B H x y w h1 h2 Q k => by
  cases h1; cases h2
  exact ⟨i, j, rfl, rfl, hc, k.here w (.int _)⟩
theorem rd_add : RD2 T (rAdd K) (pd K (.int i)) (pd K (.int j)) (pd K (.int (i + j))) := fun B H x y w h1 h2 Q k => .inl (rd_I0i (K := K) (f := fun i j => i + j) B H x y w h1 h2 Q k)
theorem rd_addS {x y : Str} (hl : x.length + y.length ≤ 100000) : RD2 T (rAdd K) (pd K (.str x)) (pd K (.str y)) (pd K (.str (x ++ y))) := fun B H u v w h1 h2 Q k => by
  cases h1; cases h2
  exact .inr (.inr (.inl ⟨x, y, rfl, rfl, Nat.le_trans hl (by decide), k.here w (.str _)⟩))
theorem rdn_cat (hl : ds.length + es.length ≤ 100000) : RD2N T K (rAdd K) (pl K ds) (pl K es) (ds ++ es) := fun B H x y w ⟨p, vs, e1, h1, r1⟩ ⟨q, us, e2, h2, r2⟩ Q k => by
  subst e1; subst e2
  exact .inr (.inl ⟨p, q, vs, us, rfl, rfl, h1, h2, by rw [r1.len, r2.len]; exact Nat.le_trans hl (by decide), fun l hl => k.lay w hl (r1.append r2)⟩)
theorem rd_sub : RD2 T rSub (pd K (.int i)) (pd K (.int j)) (pd K (.int (i - j))) := rd_I0i
theorem rd_mul (hc : CMul i j) : RD2 T rMul (pd K (.int i)) (pd K (.int j)) (pd K (.int (i * j))) := fun B H x y w h1 h2 Q k => .inl (rd_Ii (K := K) (f := fun i j => i * j) hc B H x y w h1 h2 Q k)
theorem rep_one {α : Type} (x : α) : ∀ n : Nat, (List.replicate n [x]).flatten = List.replicate n x
  | 0 => rfl
  | n + 1 => by rw [List.replicate_succ, List.flatten_cons, rep_one x n]; rfl
theorem RpAll.flat {B : Hp} {vs : List V} (r : RpAll K B vs ds) : ∀ n : Nat, RpAll K B (List.replicate n vs).flatten (List.replicate n ds).flatten
  | 0 => .nil
  | n + 1 => by rw [List.replicate_succ, List.replicate_succ, List.flatten_cons, List.flatten_cons]; exact r.append (RpAll.flat r n)
theorem rdn_rep (h0 : -(2 ^ 63) ≤ i) (h1 : i < 2 ^ 63) (hl : ds.length * i.toNat ≤ 100000) : RD2N T K rMul (pl K ds) (pd K (.int i)) (List.replicate i.toNat ds).flatten := fun B H x y w ⟨p, vs, e1, h2, r1⟩ h3 Q k => by
  subst e1; cases h3
  exact .inr ⟨p, i, vs, rfl, rfl, h2, h0, h1, by rw [r1.len]; exact Nat.le_trans hl (by decide), fun l hl => k.lay w hl (r1.flat _)⟩
theorem rd_div (h0 : 0 < j) (h1 : j < 1073741824) : RD2 T rDiv (pd K (.int i)) (pd K (.int j)) (pd K (.int (i / j))) := rd_Ii (f := fun i j => i / j) ⟨h0, h1⟩
theorem rd_mod (h0 : 0 < j) : RD2 T rMod (pd K (.int i)) (pd K (.int j)) (pd K (.int (i % j))) := rd_Ii (C := fun _ j => 0 < j) (f := fun i j => i % j) h0
theorem rd_pow (hc : CPow i j) : RD2 T rPow (pd K (.int i)) (pd K (.int j)) (pd K (.int (i ^ j.toNat))) := rd_Ii (f := fun i j => i ^ j.toNat) hc
theorem rd_lt : RD2 T rLt (pd K (.int i)) (pd K (.int j)) (pd K (.bool (decide (i < j)))) := rd_I0b (f := fun i j => decide (i < j))
theorem rd_le : RD2 T rLe (pd K (.int i)) (pd K (.int j)) (pd K (.bool (decide (i ≤ j)))) := rd_I0b (f := fun i j => decide (i ≤ j))
theorem rd_gt : RD2 T rGt (pd K (.int i)) (pd K (.int j)) (pd K (.bool (decide (j < i)))) := rd_I0b (f := fun i j => decide (j < i))
theorem rd_ge : RD2 T rGe (pd K (.int i)) (pd K (.int j)) (pd K (.bool (decide (j ≤ i)))) := rd_I0b (f := fun i j => decide (j ≤ i))
/-- is it None -/
def isN : D → Bool
  | .none => true
  | _ => false
theorem dec_non {B : Hp} {v : V} (h : Rp K B v d) : decide (v = .non) = isN d := by cases h <;> rfl
theorem rd_isN : RD2 T rIsN (pd K d) (pd K .none) (pd K (.bool (isN d))) := fun B H x y w h1 h2 Q k => by
  cases h2
  exact ⟨rfl, by rw [dec_non h1]; exact k.here w (.bl _)⟩
theorem rd_notN : RD2 T rNotN (pd K d) (pd K .none) (pd K (.bool (!isN d))) := fun B H x y w h1 h2 Q k => by
  cases h2
  exact ⟨rfl, by rw [dec_non h1]; exact k.here w (.bl _)⟩
/-- ==, != : data of both -/
theorem Wf.dp {B H : Hp} {v : V} (w : Wf T B H) (h : Rp K B v d) (s : SeqAt.shaped d = true) : Dp K H v d := Rp.dp (.inl s) (h.mono w.bh)
theorem rd_eq (s1 : SeqAt.shaped d = true) (s2 : SeqAt.shaped e = true) : RD2 T (rEqD K) (pd K d) (pd K e) (pd K (.bool (PyData.eqv d e))) := fun B H x y w h1 h2 Q k =>
  ⟨d, e, w.dp h1 s1, w.dp h2 s2, s1, s2, k.here w (.bl _)⟩
theorem rd_ne (s1 : SeqAt.shaped d = true) (s2 : SeqAt.shaped e = true) : RD2 T (rNeD K) (pd K d) (pd K e) (pd K (.bool (!PyData.eqv d e))) := fun B H x y w h1 h2 Q k =>
  ⟨d, e, w.dp h1 s1, w.dp h2 s2, s1, s2, k.here w (.bl _)⟩
theorem pl_dp {B H : Hp} {v : V} (w : Wf T B H) (h : pl K ds B H v) (s : SeqAt.shaped (.list ds) = true) : Dp K H v (.list ds) := by
  obtain ⟨p, vs, rfl, h1, r⟩ := h
  exact Rp.dp (.inl s) (.lst h1 (r.mono w.bh))
theorem rd_eqLD (s1 : SeqAt.shaped (.list ds) = true) (s2 : SeqAt.shaped e = true) : RD2 T (rEqD K) (pl K ds) (pd K e) (pd K (.bool (PyData.eqv (.list ds) e))) := fun B H x y w h1 h2 Q k =>
  ⟨_, e, pl_dp w h1 s1, w.dp h2 s2, s1, s2, k.here w (.bl _)⟩
theorem rd_neLD (s1 : SeqAt.shaped (.list ds) = true) (s2 : SeqAt.shaped e = true) : RD2 T (rNeD K) (pl K ds) (pd K e) (pd K (.bool (!PyData.eqv (.list ds) e))) := fun B H x y w h1 h2 Q k =>
  ⟨_, e, pl_dp w h1 s1, w.dp h2 s2, s1, s2, k.here w (.bl _)⟩
/-! in, of flat data -/
def flat : D → Bool
  | .none => true
  | .bool _ => true
  | .int _ => true
  | .str _ => true
  | _ => false
theorem flat_V {B : Hp} {v : V} (h : Rp K B v d) : flatV v = flat d := by cases h <;> rfl
theorem flat_all {B : Hp} : ∀ {vs : List V} {ds : List D}, RpAll K B vs ds → vs.all flatV = ds.all flat
  | _, _, .nil => rfl
  | _, _, .cons h r => by rw [List.all_cons, List.all_cons, flat_V h, flat_all r]
theorem eqV_D {B : Hp} {v u : V} {d e : D} (h1 : Rp K B v d) (h2 : Rp K B u e) (f1 : flat d = true) (f2 : flat e = true) : eqV v u = PyData.eqv d e := by
  cases h1 <;> cases h2 <;> first | rfl | (cases f1; done) | (cases f2; done) | (simp [eqV, PyData.eqv]; done)
/-- d is in ds -/
def inD (d : D) (ds : List D) : Bool := ds.any fun e => PyData.eqv e d
theorem inV_D {B : Hp} {u : V} {d : D} (h : Rp K B u d) (f : flat d = true) : ∀ {vs : List V} {ds : List D}, RpAll K B vs ds → ds.all flat = true → inV u vs = inD d ds
  | _, _, .nil, _ => rfl
  | _, _, .cons (v := v) (vs := vs) (d := e) (ds := es) h1 r, g => by
    rw [List.all_cons, Bool.and_eq_true] at g
    have ih := inV_D h f r g.2
    unfold inV at ih ⊢
    unfold inD at ih ⊢
    rw [List.any_cons, List.any_cons, ih, eqV_D h1 h g.1 f]
theorem rd_in (f : flat d = true) (g : ds.all flat = true) : RD2 T (rInA K false) (pd K d) (pl K ds) (pd K (.bool (inD d ds))) := fun B H x y w h1 ⟨p, vs, e, h2, r⟩ Q k => by
  subst e
  refine .inl ⟨p, vs, rfl, .inl (SqL.of h2), by rw [flat_V h1]; exact f, by rw [flat_all r]; exact g, ?_⟩
  rw [inV_D h1 f r g]
  exact k.here w (.bl _)
theorem rd_notin (f : flat d = true) (g : ds.all flat = true) : RD2 T (rInA K true) (pd K d) (pl K ds) (pd K (.bool (!inD d ds))) := fun B H x y w h1 ⟨p, vs, e, h2, r⟩ Q k => by
  subst e
  refine .inl ⟨p, vs, rfl, .inl (SqL.of h2), by rw [flat_V h1]; exact f, by rw [flat_all r]; exact g, ?_⟩
  rw [inV_D h1 f r g]
  exact k.here w (.bl _)
/-! items -/
theorem RpAll.at {B : Hp} {vs : List V} {n : Int} (r : RpAll K B vs ds) (h : atI ds n = some d) : ∃ v, atI vs n = some v ∧ Rp K B v d := by
  unfold atI at h ⊢
  rw [r.len]
  cases q : ixN ds.length n with
  | none => rw [q] at h; cases h
  | some m =>
    rw [q] at h
    exact r.get h
theorem rd_ixL {n : Int} (h : atI ds n = some d) : RD2 T (rIx K) (pl K ds) (pd K (.int n)) (pd K d) := fun B H x y w ⟨p, vs, e, h2, r⟩ h1 Q k => by
  subst e; cases h1
  obtain ⟨v, hv, rv⟩ := r.at h
  exact .inl ⟨p, vs, n, v, rfl, rfl, SqL.of h2, hv, k.here w rv⟩
theorem rd_ixT {n : Int} (h : atI ds n = some d) : RD2 T (rIx K) (pd K (.tuple ds)) (pd K (.int n)) (pd K d) := fun B H x y w h0 h1 Q k => by
  cases h0 with
  | tup e r =>
    cases h1
    obtain ⟨v, hv, rv⟩ := r.at h
    exact .inr (.inl ⟨_, _, n, v, rfl, rfl, SqT.of (w.bh _ _ e (fun ps z => by cases z)), hv, k.here w rv⟩)
theorem rd_ixS {n : Int} {z : Str} {c : Nat} (hz : z.length ≤ 100000) (h : atI z.cps.toList n = some c) : RD2 T (rIx K) (pd K (.str z)) (pd K (.int n)) (pd K (.str ⟨#[c]⟩)) := fun B H x y w h0 h1 Q k => by
  cases h0; cases h1
  exact .inr (.inr ⟨z, n, c, rfl, rfl, Nat.le_trans hz (by decide), h, k.here w (.str _)⟩)
theorem scr_inv {B : Hp} {v : V} {ns : List Int} (h : Rp K B v (scr ns)) : ∃ a, v = .ref a ∧ SqL K B a (ns.map V.int) := by
  generalize hz : scr ns = z at h
  cases h with
  | @scr a ms hs =>
    have e : ns = ms := by
      unfold scr at hz
      injection hz with z1
      injection z1 with z2 _
      injection z2 with _ z3
      injection z3 with z4
      exact List.map_inj_right (fun a b q => by injection q) |>.mp z4
    subst e
    exact ⟨a, rfl, hs⟩
  | _ => cases hz
theorem rd_ixScr {n m : Int} {ns : List Int} (h : atI ns n = some m) : RD2 T (rIx K) (pd K (scr ns)) (pd K (.int n)) (pd K (.int m)) := fun B H x y w h0 h1 Q k => by
  cases h1
  obtain ⟨a, rfl, hs⟩ := scr_inv h0
  have hv : atI (ns.map V.int) n = some (.int m) := by
    unfold atI at h ⊢
    rw [List.length_map]
    cases q : ixN ns.length n with
    | none => rw [q] at h; cases h
    | some t =>
      rw [q] at h
      show (ns.map V.int)[t]? = _
      rw [List.getElem?_map, show ns[t]? = some m from h]
      rfl
  exact .inl ⟨_, _, n, .int m, rfl, rfl, w.bh.sql hs, hv, k.here w (.int _)⟩
theorem atI_nat' {α : Type} {xs : List α} {n : Nat} {x : α} (h : xs[n]? = some x) : atI xs (n : Int) = some x := by
  have hl := (List.getElem?_eq_some_iff.mp h).1
  have q : ixN xs.length (n : Int) = some n := by
    unfold ixN
    rw [if_pos (by omega), if_pos (by omega)]
    rfl
  unfold atI
  rw [q]
  exact h
/-! len and so on -/
theorem ra_lenL : RA1 T (rLen K) (pl K ds) (pd K (.int ds.length)) := fun B H x w ⟨p, vs, e, h, r⟩ Q k => by
  subst e
  exact ⟨_, vs.length, rfl, .inl ⟨vs, SqL.of h, rfl⟩, by rw [r.len]; exact k.here w (.int _)⟩
theorem ra_lenT : RA1 T (rLen K) (pd K (.tuple ds)) (pd K (.int ds.length)) := fun B H x w h Q k => by
  cases h with
  | tup e r => exact ⟨_, _, rfl, .inr ⟨_, SqT.of (w.bh _ _ e (fun ps z => by cases z)), rfl⟩, by rw [r.len]; exact k.here w (.int _)⟩
theorem ra_lenS {x : Str} (hx : x.length ≤ 100000) : RA1 T (rLen K) (pd K (.str x)) (pd K (.int x.length)) := fun B H v w h Q k => by
  cases h
  exact ⟨_, _, rfl, ⟨Nat.le_trans hx (by decide), rfl⟩, k.here w (.int _)⟩
theorem ra_lenScr {ns : List Int} : RA1 T (rLen K) (pd K (scr ns)) (pd K (.int ns.length)) := fun B H v w h Q k => by
  obtain ⟨a, rfl, hs⟩ := scr_inv h
  exact ⟨_, _, rfl, .inl ⟨_, w.bh.sql hs, rfl⟩, by rw [List.length_map]; exact k.here w (.int _)⟩
theorem ra_abs : RA1 T rAbs (pd K (.int i)) (pd K (.int (if i < 0 then -i else i))) := fun B H v w h Q k => by
  cases h
  exact ⟨i, rfl, k.here w (.int _)⟩
theorem ra_int : RA1 T rInt (pd K (.int i)) (pd K (.int i)) := fun B H v w h Q k => by
  cases h
  exact .inl ⟨i, rfl, k.here w (.int _)⟩
theorem ra_max2 : RA2 T (rMx K) (pd K (.int i)) (pd K (.int j)) (pd K (.int (if j > i then j else i))) := fun B H u v w h1 h2 Q k => by
  cases h1; cases h2
  exact .inr ⟨i, j, rfl, k.here w (.int _)⟩
theorem ra_min2 : RA2 T (rMn K) (pd K (.int i)) (pd K (.int j)) (pd K (.int (if j < i then j else i))) := fun B H u v w h1 h2 Q k => by
  cases h1; cases h2
  exact .inr ⟨i, j, rfl, k.here w (.int _)⟩
/-- the greatest of a list of ints -/
def maxL : List Int → Int
  | [] => 0
  | x :: xs => xs.foldl (fun a b => if b > a then b else a) x
theorem foldl_max_le : ∀ (xs : List Int) (a : Int), a ≤ xs.foldl (fun a b => if b > a then b else a) a ∧ ∀ y ∈ xs, y ≤ xs.foldl (fun a b => if b > a then b else a) a
  | [], a => ⟨Int.le_refl _, fun _ h => by cases h⟩
  | x :: xs, a => by
    obtain ⟨h1, h2⟩ := foldl_max_le xs (if x > a then x else a)
    have ha : a ≤ (if x > a then x else a) ∧ x ≤ (if x > a then x else a) := by split <;> omega
    refine ⟨Int.le_trans ha.1 h1, fun y hy => ?_⟩
    rcases List.mem_cons.mp hy with rfl | hy
    · exact Int.le_trans ha.2 h1
    · exact h2 y hy
theorem foldl_max_mem : ∀ (xs : List Int) (a : Int), xs.foldl (fun a b => if b > a then b else a) a = a ∨ xs.foldl (fun a b => if b > a then b else a) a ∈ xs
  | [], a => .inl rfl
  | x :: xs, a => by
    rcases foldl_max_mem xs (if x > a then x else a) with h | h
    · rw [List.foldl_cons, h]
      split
      · exact .inr List.mem_cons_self
      · exact .inl rfl
    · exact .inr (List.mem_cons_of_mem _ h)
theorem maxL_le : ∀ {xs : List Int} {y : Int}, y ∈ xs → y ≤ maxL xs
  | x :: xs, y, h => by
    rcases List.mem_cons.mp h with rfl | h
    · exact (foldl_max_le xs y).1
    · exact (foldl_max_le xs x).2 y h
theorem maxL_mem : ∀ {xs : List Int}, xs ≠ [] → maxL xs ∈ xs
  | x :: xs, _ => by
    rcases foldl_max_mem xs x with h | h
    · exact List.mem_cons.mpr (.inl h)
    · exact List.mem_cons_of_mem _ h
theorem RpAll.ints {B : Hp} : ∀ {vs : List V} {ns : List Int}, RpAll K B vs (ns.map .int) → vs = ns.map V.int
  | [], [], _ => rfl
  | [], _ :: _, h => by cases h
  | _ :: _, [], h => by cases h
  | v :: vs, n :: ns, h => by
    cases h with
    | cons h r => cases h; rw [List.map_cons, RpAll.ints r]
theorem RpAll.ofInts {B : Hp} : ∀ (ns : List Int), RpAll K B (ns.map V.int) (ns.map .int)
  | [] => .nil
  | n :: ns => .cons (.int n) (RpAll.ofInts ns)
theorem RpAll.bools {B : Hp} : ∀ {vs : List V} {bs : List Bool}, RpAll K B vs (bs.map .bool) → vs = bs.map V.bl
  | [], [], _ => rfl
  | [], _ :: _, h => by cases h
  | _ :: _, [], h => by cases h
  | v :: vs, n :: ns, h => by
    cases h with
    | cons h r => cases h; rw [List.map_cons, RpAll.bools r]
theorem ra_maxL {ns : List Int} (h0 : 0 < ns.length) : RA1 T (rMx K) (pl K (ns.map .int)) (pd K (.int (maxL ns))) := fun B H v w ⟨p, vs, e, h, r⟩ Q k => by
  subst e
  rw [r.ints] at h
  refine .inl ⟨p, ns, rfl, SqL.of h, h0, fun m hm hle => ?_⟩
  have e : m = maxL ns := Int.le_antisymm (maxL_le hm) (hle _ (maxL_mem (fun z => by rw [z] at h0; cases h0)))
  rw [e]
  exact k.here w (.int _)
theorem ra_sum {hc : True} {ns : List Int} : RA1 T (rSum K) (pl K (ns.map .int)) (pd K (.int ns.sum)) := fun B H v w ⟨p, vs, e, h, r⟩ Q k => by
  subst e
  rw [r.ints] at h
  exact ⟨p, ns, rfl, SqL.of h, k.here w (.int _)⟩
theorem ra_all {bs : List Bool} : RA1 T (rAll K) (pl K (bs.map .bool)) (pd K (.bool (bs.all id))) := fun B H v w ⟨p, vs, e, h, r⟩ Q k => by
  subst e
  rw [r.bools] at h
  exact ⟨p, bs, rfl, SqL.of h, k.here w (.bl _)⟩
theorem ra_any {bs : List Bool} : RA1 T (rAny K) (pl K (bs.map .bool)) (pd K (.bool (bs.any id))) := fun B H v w ⟨p, vs, e, h, r⟩ Q k => by
  subst e
  rw [r.bools] at h
  exact ⟨p, bs, rfl, SqL.of h, k.here w (.bl _)⟩
theorem ran_list : RA1N T K (rLst K) (pl K ds) ds := fun B H v w ⟨p, vs, e, h, r⟩ Q k => by
  subst e
  exact ⟨p, vs, rfl, .inl (SqL.of h), fun l hl => k.lay w hl r⟩
theorem ran_listT : RA1N T K (rLst K) (pd K (.tuple ds)) ds := fun B H v w h Q k => by
  cases h with
  | tup e r => exact ⟨_, _, rfl, .inr (SqT.of (w.bh _ _ e (fun ps z => by cases z))), fun l hl => k.lay w hl r⟩
theorem ra_tuple : RA1 T (rTpl K) (pl K ds) (pd K (.tuple ds)) := fun B H v w ⟨p, vs, e, h, r⟩ Q k => by
  subst e
  exact ⟨p, vs, rfl, .inl ⟨SqL.of h, fun l hl => k.layT w hl r⟩⟩
/-! isinstance -/
/-- is d of the built-in class -/
def isC : String → D → Bool
  | "int", .int _ => true
  | "int", .bool _ => true
  | "bool", .bool _ => true
  | "str", .str _ => true
  | "list", .list _ => true
  | "tuple", .tuple _ => true
  | "list", .dict _ => true
  | _, _ => false
/-- the classes that are asked for -/
def five : List String := ["int", "bool", "str", "list", "tuple"]
def isCT (t c : String) : Bool := t == c || (t == "bool" && c == "int")
theorem kit_five : (["NoneType", "bool", "int", "str", "list", "tuple"].all fun t => five.all fun c => decide (kitB t c = some (isCT t c))) = true := by decide +kernel
theorem kit_at {t c : String} (ht : t ∈ ["NoneType", "bool", "int", "str", "list", "tuple"]) (hc : c ∈ five) : kitB t c = some (isCT t c) :=
  of_decide_eq_true (List.all_eq_true.mp (List.all_eq_true.mp kit_five t ht) c hc)
theorem isi_go {B H : Hp} {x : V} {t c : String} {d : D} (hc : c ∈ five) (w : Wf T B H) (ty : TyX K H x (.type t)) (ht : t ∈ ["NoneType", "bool", "int", "str", "list", "tuple"]) (e : isCT t c = isC c d) {Q : VK} (k : Ret T B H (pd K (.bool (isC c d))) Q) : rIsi K [x, .ty c] H Q :=
  ⟨x, .ty c, .type t, .type c, _, rfl, .ty c, ty, kit_ty (kit_at ht hc), by rw [e]; exact k.here w (.bl _)⟩
theorem ra_isi {c : String} (hc : c ∈ five) {d : D} : ∀ (B H : Hp) (x : V), Wf T B H → Rp K B x d → ∀ Q : VK, Ret T B H (pd K (.bool (isC c d))) Q → rIsi K [x, .ty c] H Q := by
  intro B H x w h Q k
  have hc' := hc
  simp only [five, List.mem_cons, List.not_mem_nil, or_false] at hc'
  cases h with
  | non => exact isi_go hc w (.base .non) (by simp) (by rcases hc' with rfl | rfl | rfl | rfl | rfl <;> decide) k
  | bl b => exact isi_go hc w (.base (.bl b)) (by simp) (by rcases hc' with rfl | rfl | rfl | rfl | rfl <;> rfl) k
  | int n => exact isi_go hc w (.base (.int n)) (by simp) (by rcases hc' with rfl | rfl | rfl | rfl | rfl <;> rfl) k
  | str n => exact isi_go hc w (.base (.str n)) (by simp) (by rcases hc' with rfl | rfl | rfl | rfl | rfl <;> rfl) k
  | lst e r => exact isi_go hc w (.base (.lst (w.bh _ _ e (fun ps z => by cases z)))) (by simp) (by rcases hc' with rfl | rfl | rfl | rfl | rfl <;> rfl) k
  | tup e r => exact isi_go hc w (.base (.tup (w.bh _ _ e (fun ps z => by cases z)))) (by simp) (by rcases hc' with rfl | rfl | rfl | rfl | rfl <;> rfl) k
  | scr hs =>
    have hs' := w.bh.sql hs
    rcases hs' with (e | ⟨o, e⟩) | ⟨o, its, n, e, ec, _⟩
    · exact isi_go hc w (.base (.lst e)) (by simp) (by rcases hc' with rfl | rfl | rfl | rfl | rfl <;> rfl) k
    · exact isi_go hc w (.base (.frz e)) (by simp) (by rcases hc' with rfl | rfl | rfl | rfl | rfl <;> rfl) k
    · exact isi_go hc w (.kList e ec) (by simp) (by rcases hc' with rfl | rfl | rfl | rfl | rfl <;> rfl) k
theorem ra_isiL {c : String} (hc : c ∈ five) : ∀ (B H : Hp) (x : V), Wf T B H → pl K ds B H x → ∀ Q : VK, Ret T B H (pd K (.bool (isC c (.list ds)))) Q → rIsi K [x, .ty c] H Q := by
  intro B H x w ⟨p, vs, e, h, r⟩ Q k
  subst e
  have hc' := hc
  simp only [five, List.mem_cons, List.not_mem_nil, or_false] at hc'
  exact isi_go hc w (.base (.lst h)) (by simp) (by rcases hc' with rfl | rfl | rfl | rfl | rfl <;> rfl) k
end
section
variable {T : Tbs} {K : PySem.W.Frag} {ρ : List Slot} {te : TE} {d : D} {ds : List D}
theorem ev_isi {c : String} (h : Ev T K te ρ d) (hc : c ∈ five) : Ev T K (tCB (rIsi K) (tCons te (tCons (tC (.ty c)) tNil))) ρ (.bool (isC c d)) := fun B0 H0 B H σ F Q k =>
  h B0 H0 B H σ F _ fun x B1 H1 w1 l1 p1 => ra_isi hc B1 H1 x w1 p1 Q (k.at l1)
theorem ev_isiL {c : String} (h : EvL T K te ρ ds) (hc : c ∈ five) : Ev T K (tCB (rIsi K) (tCons te (tCons (tC (.ty c)) tNil))) ρ (.bool (isC c (.list ds))) := fun B0 H0 B H σ F Q k =>
  h B0 H0 B H σ F _ fun x B1 H1 w1 l1 p1 => ra_isiL hc B1 H1 x w1 p1 Q (k.at l1)
end
end XL
/-! XL, part d: comprehensions, promises, statements, loops. -/
namespace XL
open PySem L2
def wipeS (ρ : List Slot) : List Nat → List Slot
  | [] => ρ
  | v :: vs => (wipeS ρ vs).set v .any
section
variable {T : Tbs} {K : PySem.W.Frag} {B0 H0 B H B' H' : Hp} {σ : L2.St} {ρ ρ' : List Slot} {i j : Nat} {d : D} {ds es : List D} {v : V}
theorem Fm.setN (F : Fm T K B0 H0 B H σ ρ) (x : Option V) : Fm T K B0 H0 B H (σ.set i x) (ρ.set i .any) where
  wf := F.wf
  le := F.le
  len := by rw [List.length_set, List.length_set, F.len]
  sl := fun k s e => by
    by_cases q : i = k
    · subst q
      have hl : i < ρ.length := by simpa using (List.getElem?_eq_some_iff.mp e).1
      rw [List.getElem?_set_self hl] at e
      cases e
      exact ⟨x, List.getElem?_set_self (by rw [F.len]; exact hl), trivial⟩
    · rw [List.getElem?_set_ne q] at e ⊢
      exact F.sl k s e
  ap := fun a b ds ds' p ea eb sa sb => by
    have na : i ≠ a := fun z => by
      subst z
      have hl : i < ρ.length := by simpa using (List.getElem?_eq_some_iff.mp ea).1
      rw [List.getElem?_set_self hl] at ea; cases ea
    have nb : i ≠ b := fun z => by
      subst z
      have hl : i < ρ.length := by simpa using (List.getElem?_eq_some_iff.mp eb).1
      rw [List.getElem?_set_self hl] at eb; cases eb
    rw [List.getElem?_set_ne na] at ea sa
    rw [List.getElem?_set_ne nb] at eb sb
    exact F.ap a b ds ds' p ea eb sa sb
theorem Fm.wipe (F : Fm T K B0 H0 B H σ ρ) : ∀ vs : List Nat, Fm T K B0 H0 B H (L2.wipe σ vs) (wipeS ρ vs)
  | [] => F
  | v :: vs => (Fm.wipe F vs).setN none
theorem set_none_set (l : List (Option V)) (i j : Nat) (x : Option V) : i ≠ j → (l.set i x).set j none = (l.set j none).set i x := fun h => List.set_comm x none h
theorem wipe_set (σ : L2.St) (x : Option V) (vs : List Nat) (j : Nat) (hj : j ∈ vs) : L2.wipe (σ.set j x) vs = L2.wipe σ vs := by
  induction vs generalizing σ with
  | nil => cases hj
  | cons v vs ih =>
    show (L2.wipe (σ.set j x) vs).set v none = (L2.wipe σ vs).set v none
    by_cases h : j ∈ vs
    · rw [ih σ h]
    · have e : j = v := by
        rcases List.mem_cons.mp hj with e | e
        · exact e
        · exact absurd e h
      subst e
      have key : ∀ (ws : List Nat) (τ : L2.St), j ∉ ws → L2.wipe (τ.set j x) ws = (L2.wipe τ ws).set j x := by
        intro ws
        induction ws with
        | nil => intro τ _; rfl
        | cons w ws ih2 =>
          intro τ hn
          show (L2.wipe (τ.set j x) ws).set w none = ((L2.wipe τ ws).set w none).set j x
          rw [ih2 τ (fun z => hn (List.mem_cons_of_mem _ z))]
          exact List.set_comm x none (fun z => hn (by rw [z]; exact List.mem_cons_self))
      rw [key vs σ h, List.set_set]
theorem wipe_wipe (σ : L2.St) (vs : List Nat) : ∀ ws : List Nat, (∀ w ∈ ws, w ∈ vs) → L2.wipe (L2.wipe σ ws) vs = L2.wipe σ vs
  | [], _ => rfl
  | w :: ws, h => by
    show L2.wipe ((L2.wipe σ ws).set w none) vs = _
    rw [wipe_set _ none vs w (h w List.mem_cons_self), wipe_wipe σ vs ws fun u hu => h u (List.mem_cons_of_mem _ hu)]
theorem wipe_turn (σ : L2.St) (vs : List Nat) (j : Nat) (x : V) (hj : j ∈ vs) : L2.wipe ((L2.wipe σ vs).set j (some x)) vs = L2.wipe σ vs := by
  rw [wipe_set _ _ vs j hj, wipe_wipe σ vs vs fun _ h => h]

/-! ### comprehensions -/
theorem take_succ' {α : Type} {l : List α} {i : Nat} {a : α} (h : l[i]? = some a) : l.take (i + 1) = l.take i ++ [a] := by
  rw [List.take_add_one, h]; rfl
section
variable {α : Type} {l : List α} {e : α → D} {tl te : TE} {tt : TT} {vs : List Nat} {f : α → Bool} {g : α → D}
/-- what holds between two turns: the list at Dl has what the items so far have given -/
def LcW (T : Tbs) (K : PySem.W.Frag) (B1 H1 : Hp) (Dl : Addr) (l : List α) (f : α → Bool) (g : α → D) (i : Nat) (H : Hp) : Prop :=
  ∃ B acc, Wf T B H ∧ Le B1 H1 B H ∧ H Dl = some (.lst acc) ∧ B Dl = none ∧ RpAll K B acc (((l.take i).filter f).map g)
theorem lc_turn {B1 H1 : Hp} {Dl : Addr} {x : V} {a : α} (F : Fm T K B0 H0 B1 H1 σ ρ) (hD : H1 Dl = none) (hj : j ∈ vs) (hz : l.length ≤ 100000) (ha : l[i]? = some a) (hx : Rp K B1 x (e a))
    (ht : EvT T K tt ((wipeS ρ vs).set j (.dat (e a))) (f a)) (he : f a = true → Ev T K te ((wipeS ρ vs).set j (.dat (e a))) (g a)) (p : LcW T K B1 H1 Dl l f g i H) :
    gName j x (L2.wipe σ vs) H fun σ2 H2 => L2.wipe σ2 vs = L2.wipe σ vs ∧ tt σ2 H2 fun b H3 =>
      if b = true then te σ2 H3 fun y H4 => ∃ acc, H4 Dl = some (.lst acc) ∧ acc.length < sizeLine ∧ LcW T K B1 H1 Dl l f g (i + 1) (upd H4 Dl (.lst (acc ++ [y]))) else LcW T K B1 H1 Dl l f g (i + 1) H3 := by
  obtain ⟨B, acc, w, le, hl, hb, r⟩ := p
  have F2 : Fm T K B0 H0 B H ((L2.wipe σ vs).set j (some x)) ((wipeS ρ vs).set j (.dat (e a))) := ((F.mono w le).wipe vs).setD (hx.mono le.bb)
  refine ⟨wipe_turn σ vs j x hj, ht _ _ _ _ _ F2 _ fun B3 H3 w3 l3 => ?_⟩
  have e1 : (l.take (i + 1)).filter f = (l.take i).filter f ++ (if f a = true then [a] else []) := by
    rw [take_succ' ha, List.filter_append]
    congr 1
    by_cases h : f a = true
    · simp [h]
    · simp [h]
  have hl3 := l3.hh _ _ hl (fun ps z => by cases z)
  cases hf : f a with
  | true =>
    rw [hf, if_pos rfl] at e1
    refine (he hf) _ _ _ _ _ (F2.mono w3 l3) _ fun y B4 H4 w4 l4 ry => ?_
    have hl4 := l4.hh _ _ hl3 (fun ps z => by cases z)
    have hb4 := (l3.trans l4).keepB hb hl
    refine ⟨acc, hl4, ?_, B4, acc ++ [y], w4.mut hl4 hb4, (le.trans (l3.trans l4)).mut hl4 hD, upd_same, hb4, ?_⟩
    · rw [r.len, List.length_map]
      have h1 := List.length_filter_le f (l.take i)
      have h2 : (l.take i).length ≤ l.length := by rw [List.length_take]; omega
      exact Nat.lt_of_le_of_lt (Nat.le_trans h1 (Nat.le_trans h2 hz)) (by decide)
    · rw [e1, List.map_append]
      exact (r.mono (l3.bb.trans l4.bb)).append (.cons ry .nil)
  | false =>
    rw [hf, if_neg (by decide), List.append_nil] at e1
    show LcW T K B1 H1 Dl l f g (i + 1) H3
    exact ⟨B3, acc, w3, le.trans l3, hl3, l3.keepB hb hl, by rw [e1]; exact r.mono l3.bb⟩
theorem evn_lc (hl : EvL T K tl ρ (l.map e)) (hz : l.length ≤ 100000) (hj : j ∈ vs) (ht : ∀ (i : Nat) (a : α), l[i]? = some a → EvT T K tt ((wipeS ρ vs).set j (.dat (e a))) (f a))
    (he : ∀ (i : Nat) (a : α), l[i]? = some a → f a = true → Ev T K te ((wipeS ρ vs).set j (.dat (e a))) (g a)) : EvN T K (tLc (iList K tl) (gName j) tt te vs) ρ ((l.filter f).map g) := fun B0 H0 B H σ F Q k =>
  hl B0 H0 B H σ F _ fun x B1 H1 w1 l1 ⟨p, xs, ex, hp, r⟩ => ⟨p, ex, ⟨xs, SqL.of hp⟩, fun Dl hD => by
    have hlen : xs.length = l.length := by rw [r.len, List.length_map]
    refine lc_list (xs := xs) (LcW T K B1 H1 Dl l f g) ⟨B1, [], w1.side hD, Le.side hD, upd_same, w1.bn _ hD, .nil⟩ (fun i H2 _ ⟨_, _, _, le, _⟩ => SqL.of (le.hh _ _ hp (fun ps z => by cases z))) (fun i x H2 hx q => ?_) (fun H2 ⟨B2, acc, w, le, h1, h2, h3⟩ => ?_)
    · obtain ⟨d, hd, rd⟩ := r.getV hx
      rw [List.getElem?_map] at hd
      cases q2 : l[i]? with
      | none => rw [q2] at hd; cases hd
      | some a =>
        rw [q2] at hd
        have hd' : some (e a) = some d := hd
        cases hd'
        exact lc_turn (F.mono w1 l1) hD hj hz q2 rd (ht i a q2) (he i a q2) q
    · rw [hlen, List.take_length] at h3
      exact k _ _ _ _ w (l1.trans le) (l1.nn _ hD) h2 h1 h3⟩
end
section
variable {ta : TA} {te : TE} {tt : TT} {vs : List Nat} {f : Nat → Bool} {g : Nat → D} {n : Nat}
theorem ea_one {d : D} {ta : TA} (h : EvA T K ta ρ [d]) {B0 H0 B H : Hp} {σ : L2.St} (F : Fm T K B0 H0 B H σ ρ) (Q : List V → Hp → Prop) (k : ∀ v B' H', Wf T B' H' → Le B H B' H' → Rp K B' v d → Q [v] H') : ta σ H Q :=
  h B0 H0 B H σ F Q fun vs B' H' w l r => by
    cases r with
    | cons h r => cases r; exact k _ B' H' w l h
theorem range_get {n i : Nat} (h : i < n) : (List.range n)[i]? = some i := by rw [List.getElem?_range h]
theorem evn_lcR {z : Int} (hl : EvA T K ta ρ [.int z]) (hn : z = (n : Int)) (hz : n ≤ 100000) (hj : j ∈ vs) (ht : ∀ i : Nat, i < n → EvT T K tt ((wipeS ρ vs).set j (.dat (.int (i : Int)))) (f i))
    (he : ∀ i : Nat, i < n → f i = true → Ev T K te ((wipeS ρ vs).set j (.dat (.int (i : Int)))) (g i)) : EvN T K (tLc (iRng1 ta) (gName j) tt te vs) ρ (((List.range n).filter f).map g) := fun B0 H0 B H σ F Q k =>
  ea_one hl F _ fun v B1 H1 w1 l1 rv => by
    cases rv
    subst hn
    refine ⟨_, rfl, by omega, by omega, fun Dl hD => ?_⟩
    have e0 : (n : Int).toNat = n := by simp
    rw [e0]
    refine lc_range (lo := 0) (n := n) (LcW T K B1 H1 Dl (List.range n) f g) ⟨B1, [], w1.side hD, Le.side hD, upd_same, w1.bn _ hD, .nil⟩ (fun i H2 hi q => ?_) (fun H2 ⟨B2, acc, w, le, h1, h2, h3⟩ => ?_)
    · have e1 : (0 : Int) + (i : Int) = (i : Int) := Int.zero_add _
      rw [e1]
      exact lc_turn (e := fun m : Nat => PyData.int (m : Int)) (F.mono w1 l1) hD hj (by rw [List.length_range]; exact hz) (range_get hi) (.int _) (ht i hi) (he i hi) q
    · rw [List.take_of_length_le (by rw [List.length_range]; omega)] at h3
      exact k _ _ _ _ w (l1.trans le) (l1.nn _ hD) h2 h1 h3
end
end

/-! ### promises -/
inductive Res where
  | ok (d : D)
  | new (ds : List D)
  | ex (c : Str) (fs : List (Str × D))
def ErrAt (K : PySem.W.Frag) (cl : Str → Addr) (c : Str) (fs : List (Str × D)) (cls : Value) (dd : Option Addr) (B H : Hp) : Prop :=
  cls = .ref (cl c) ∧ ∃ d fv, dd = some d ∧ H d = some (.xd fv) ∧ fv.map (·.1) = fs.map (·.1) ∧ RpAll K B (fv.map (·.2)) (fs.map (·.2))
section
variable (T : Tbs) (K : PySem.W.Frag) (cl : Str → Addr)
def ResOk (B H : Hp) (Q : VK) (E : XK) : Res → Prop
  | .ok d => Ret T B H (pd K d) Q
  | .new ds => RetN T K B H ds Q
  | .ex c fs => ∀ cls dd B' H', Wf T B' H' → Le B H B' H' → ErrAt K cl c fs cls dd B' H' → E cls dd H'
def SpX (R : List D → Res → Prop) : Sp := fun vs H Q E => ∃ B ds r, Wf T B H ∧ RpAll K B vs ds ∧ R ds r ∧ ResOk T K cl B H Q E r
def EvX (E : XK) (t : TE) (ρ : List Slot) (r : Res) : Prop := ∀ (B0 H0 B H : Hp) (σ : L2.St), Fm T K B0 H0 B H σ ρ → ∀ Q : VK, ResOk T K cl B H Q E r → t σ H Q
end
section
variable {T : Tbs} {K : PySem.W.Frag} {cl : Str → Addr} {B H B' H' : Hp} {ρ : List Slot} {R : List D → Res → Prop} {E : XK} {ta : TA} {te : TE} {ds es : List D} {d : D} {r : Res}
theorem ResOk.at {Q : VK} (k : ResOk T K cl B H Q E r) (l : Le B H B' H') : ResOk T K cl B' H' Q E r := by
  cases r with
  | ok d => exact Ret.at k l
  | new ds => exact RetN.at k l
  | ex c fs => exact fun cls dd B2 H2 w l2 h => k cls dd B2 H2 w (l.trans l2) h
theorem evx_call (ha : EvA T K ta ρ ds) (hR : R ds r) : EvX T K cl E (tCall (SpX T K cl R) [] E ta) ρ r := fun B0 H0 B H σ F Q k =>
  ha B0 H0 B H σ F _ fun vs B1 H1 w1 l1 rp => ⟨B1, ds, r, w1, by rw [List.append_nil]; exact rp, hR, k.at l1⟩
theorem ev_call (ha : EvA T K ta ρ ds) (hR : R ds (.ok d)) : Ev T K (tCall (SpX T K cl R) [] E ta) ρ d := fun B0 H0 B H σ F Q k => evx_call ha hR B0 H0 B H σ F Q k
theorem evn_call (ha : EvA T K ta ρ ds) (hR : R ds (.new es)) : EvN T K (tCall (SpX T K cl R) [] E ta) ρ es := fun B0 H0 B H σ F Q k => evx_call ha hR B0 H0 B H σ F Q k
theorem flat_any {v : V} {B' : Hp} (h : Rp K B v d) (f : flat d = true) : Rp K B' v d := by
  cases h <;> first | (cases f; done) | constructor
theorem flats_any {B' : Hp} : ∀ {vs : List V} {ds : List D}, RpAll K B vs ds → ds.all flat = true → RpAll K B' vs ds
  | _, _, .nil, _ => .nil
  | _, _, .cons h r, f => by
    rw [List.all_cons, Bool.and_eq_true] at f
    exact .cons (flat_any h f.1) (flats_any r f.2)
/-- behind a call that read the whole heap: the data as they were -/
theorem Wf.back {B'' H'' : Hp} (w : Wf T B H) (l : Le H H B'' H'') (w2 : Wf T B'' H'') : Wf T B H'' := ⟨w.bh.trans l.hh, fun a h => w.bn a (l.nn a h), w2.tb⟩
theorem Le.back {B'' H'' : Hp} (l : Le H H B'' H'') : Le B H B H'' := ⟨LamX.ExtN.refl _, l.hh, l.nn, fun a h h' => absurd h h'⟩
theorem ev_callH (ha : EvAH T K ta ρ ds) (hR : R ds (.ok d)) (f : flat d = true) : Ev T K (tCall (SpX T K cl R) [] E ta) ρ d := fun B0 H0 B H σ F Q k =>
  ha B0 H0 B H σ F _ fun vs B1 H1 w1 l1 rp => ⟨H1, ds, _, w1.full, by rw [List.append_nil]; exact rp, hR, fun v B2 H2 w2 l2 rv => k v B1 H2 (w1.back l2 w2) (l1.trans l2.back) (flat_any rv f)⟩
theorem evn_callH (ha : EvAH T K ta ρ ds) (hR : R ds (.new es)) (f : es.all flat = true) : EvN T K (tCall (SpX T K cl R) [] E ta) ρ es := fun B0 H0 B H σ F Q k =>
  ha B0 H0 B H σ F _ fun vs B1 H1 w1 l1 rp => ⟨H1, ds, _, w1.full, by rw [List.append_nil]; exact rp, hR, fun p us B2 H2 w2 l2 h1 h2 h3 rv =>
    k p us B1 H2 (w1.back l2 w2) (l1.trans l2.back) (l1.nn p h1) (w1.bn p h1) h3 (flats_any rv f)⟩
theorem EvX.ok (h : EvX T K cl E te ρ (.ok d)) : Ev T K te ρ d := h
theorem EvX.newOk (h : EvX T K cl E te ρ (.new ds)) : EvN T K te ρ ds := h
theorem Ev.x (h : Ev T K te ρ d) : EvX T K cl E te ρ (.ok d) := h
end

/-! ### statements -/
inductive Out where
  | nx (ρ : List Slot)
  | rt (d : D)
  | rn (ds : List D)
  | bk (ρ : List Slot)
  | ct (ρ : List Slot)
  | ex (c : Str) (fs : List (Str × D)) (ρ : List Slot)
section
variable (T : Tbs) (K : PySem.W.Frag) (cl : Str → Addr)
def Sat (B0 H0 Bs : Hp) (W : WX) (D : Ends) : Out → Prop
  | .nx ρ => ∀ σ B H, Fm T K B0 H0 B H σ ρ → ExN Bs B → D.nx σ H
  | .rt d => Ret T B0 H0 (pd K d) D.rt
  | .rn ds => RetN T K B0 H0 ds D.rt
  | .bk ρ => ∀ σ B H, Fm T K B0 H0 B H σ ρ → ExN Bs B → D.bk σ H
  | .ct ρ => ∀ σ B H, Fm T K B0 H0 B H σ ρ → ExN Bs B → D.ct σ H
  | .ex c fs ρ => ∀ σ B H cls dd, Fm T K B0 H0 B H σ ρ → ExN Bs B → ErrAt K cl c fs cls dd B H → W cls dd σ H
def XS (W : WX) (t : TS) (ρ : List Slot) (o : Out) : Prop := ∀ (B0 H0 B H : Hp) (σ : L2.St) (D : Ends), Fm T K B0 H0 B H σ ρ → Sat T K cl B0 H0 B W D o → t D σ H
end
section
variable {T : Tbs} {K : PySem.W.Frag} {cl : Str → Addr} {B0 H0 B H B1 : Hp} {ρ ρ1 ρ2 : List Slot} {W : WX} {D' : Ends} {t u tz : TS} {te ti : TE} {c : TT} {o o1 o2 : Out} {d : D} {ds es : List D} {i : Nat} {b : Bool}
theorem Sat.step (e : ExN B B1) (k : Sat T K cl B0 H0 B W D' o) : Sat T K cl B0 H0 B1 W D' o := by
  cases o with
  | nx ρ => exact fun σ B2 H2 F e2 => k σ B2 H2 F (e.trans e2)
  | rt d => exact k
  | rn ds => exact k
  | bk ρ => exact fun σ B2 H2 F e2 => k σ B2 H2 F (e.trans e2)
  | ct ρ => exact fun σ B2 H2 F e2 => k σ B2 H2 F (e.trans e2)
  | ex c fs ρ => exact fun σ B2 H2 cls dd F e2 => k σ B2 H2 cls dd F (e.trans e2)
/-- it does not go on to what follows -/
def Out.leaves : Out → Prop
  | .nx _ => False
  | _ => True
theorem Sat.leave {N : L2.St → Hp → Prop} (l : o.leaves) (k : Sat T K cl B0 H0 B W D' o) : Sat T K cl B0 H0 B W { D' with nx := N } o := by
  cases o with
  | nx ρ => exact l.elim
  | rt d => exact k
  | rn ds => exact k
  | bk ρ => exact k
  | ct ρ => exact k
  | ex c fs ρ => exact k
theorem XS.is (h : XS T K cl W t ρ o1) (e : o1 = o) : XS T K cl W t ρ o := e ▸ h
theorem xs_pre (w : Wk ρ ρ1) (h : XS T K cl W t ρ1 o) : XS T K cl W t ρ o := fun B0 H0 B H σ D F k => h B0 H0 B H σ D (F.weak w) k
theorem xs_wk (h : XS T K cl W t ρ (.nx ρ1)) (w : Wk ρ1 ρ2) : XS T K cl W t ρ (.nx ρ2) := fun B0 H0 B H σ D F k => h B0 H0 B H σ D F fun σ' B' H' F' e => k σ' B' H' (F'.weak w) e
theorem xs_freeze (e : ρ[i]? = some (.own ds)) (h : XS T K cl W t (ρ.set i (.dat (.list ds))) o) : XS T K cl W t ρ o := fun B0 H0 B H σ D F k => by
  obtain ⟨B1, ex, F1⟩ := F.freeze e
  exact h B0 H0 B1 H σ D F1 (k.step ex)
theorem xs_seq (h : XS T K cl W t ρ (.nx ρ1)) (hz : XS T K cl W tz ρ1 o) : XS T K cl W (tSeq t tz) ρ o := fun B0 H0 B H σ D F k =>
  h B0 H0 B H σ { D with nx := tz D } F fun σ' B' H' F' e => hz B0 H0 B' H' σ' D F' (k.step e)
/-- a statement that may leave, or go on -/
theorem xs_seqO (h : XS T K cl W t ρ o1) (h1 : o1.leaves → o1 = o) (h2 : ∀ ρ1, o1 = .nx ρ1 → XS T K cl W tz ρ1 o) : XS T K cl W (tSeq t tz) ρ o := fun B0 H0 B H σ D F k => by
  refine h B0 H0 B H σ { D with nx := tz D } F ?_
  cases o1 with
  | nx ρ1 => exact fun σ' B' H' F' e => h2 ρ1 rfl B0 H0 B' H' σ' D F' (k.step e)
  | _ => rw [h1 trivial]; exact Sat.leave (by rw [← h1 trivial]; trivial) k
theorem xs_next : XS T K cl W tNext ρ (.nx ρ) := fun B0 H0 B H σ D F k => k σ B H F (LamX.ExtN.refl _)
theorem xs_if (h : EvT T K c ρ b) (h1 : b = true → XS T K cl W t ρ o1) (h2 : b = false → XS T K cl W u ρ o2) : XS T K cl W (tIfS c t u) ρ (if b = true then o1 else o2) := fun B0 H0 B H σ D F k => h B0 H0 B H σ F _ fun B1 H1 w1 l1 => by
  cases b with
  | true => exact h1 rfl B0 H0 B1 H1 σ D (F.mono w1 l1) (k.step l1.bb)
  | false => exact h2 rfl B0 H0 B1 H1 σ D (F.mono w1 l1) (k.step l1.bb)
theorem xs_if' (h : EvT T K c ρ b) (h1 : b = true → XS T K cl W t ρ o) (h2 : b = false → XS T K cl W u ρ o) : XS T K cl W (tIfS c t u) ρ o := (xs_if h h1 h2).is (by cases b <;> rfl)
/-- if ..: (leaves); rest -/
theorem xs_when (h : EvT T K c ρ b) (l : b = true → o1.leaves) (h1 : b = true → XS T K cl W t ρ o1) (h2 : b = false → XS T K cl W tz ρ o2) : XS T K cl W (tSeq (tIfS c t tNext) tz) ρ (if b = true then o1 else o2) := fun B0 H0 B H σ D F k => h B0 H0 B H σ F _ fun B1 H1 w1 l1 => by
  cases b with
  | true => exact h1 rfl B0 H0 B1 H1 σ { D with nx := tz D } (F.mono w1 l1) (Sat.leave (l rfl) (k.step l1.bb))
  | false => exact h2 rfl B0 H0 B1 H1 σ D (F.mono w1 l1) (k.step l1.bb)
theorem xs_when' (h : EvT T K c ρ b) (l : o.leaves) (h1 : b = true → XS T K cl W t ρ o) (h2 : b = false → XS T K cl W tz ρ o) : XS T K cl W (tSeq (tIfS c t tNext) tz) ρ o :=
  (xs_when h (fun _ => l) h1 h2).is (by cases b <;> rfl)
/-- if ..: .. else: .. ; rest, both ways walked on -/
theorem xs_fork (h : EvT T K c ρ b) (h1 : b = true → XS T K cl W (tSeq t tz) ρ o) (h2 : b = false → XS T K cl W (tSeq u tz) ρ o) : XS T K cl W (tSeq (tIfS c t u) tz) ρ o := fun B0 H0 B H σ D F k => h B0 H0 B H σ F _ fun B1 H1 w1 l1 => by
  cases b with
  | true => exact h1 rfl B0 H0 B1 H1 σ D (F.mono w1 l1) (k.step l1.bb)
  | false => exact h2 rfl B0 H0 B1 H1 σ D (F.mono w1 l1) (k.step l1.bb)
theorem xs_nextSeq (h : XS T K cl W tz ρ o) : XS T K cl W (tSeq tNext tz) ρ o := h
theorem xs_asg (h : Ev T K te ρ d) : XS T K cl W (tAsg te (gName i)) ρ (.nx (ρ.set i (.dat d))) := fun B0 H0 B H σ D F k => h B0 H0 B H σ F _ fun v B1 H1 w1 l1 r => k _ B1 H1 ((F.mono w1 l1).setD r) l1.bb
theorem Fm.setNew {σ : L2.St} {B' H' : Hp} {p : Addr} {vs : List V} (F : Fm T K B0 H0 B H σ ρ) (w : Wf T B' H') (l : Le B H B' H') (h0 : H p = none) (h1 : B' p = none) (h2 : H' p = some (.lst vs)) (r : RpAll K B' vs ds) : Fm T K B0 H0 B' H' (σ.set i (some (.ref p))) (ρ.set i (.own ds)) :=
  (F.mono w l).setO h2 r h1 (F.le.nn p h0) fun j es _ ej sj => by
    obtain ⟨q, us, hs, hq, _⟩ := F.own ej
    rw [hs] at sj
    cases sj
    rw [h0] at hq; cases hq
theorem xs_asgN (h : EvN T K te ρ ds) : XS T K cl W (tAsg te (gName i)) ρ (.nx (ρ.set i (.own ds))) := fun B0 H0 B H σ D F k => h B0 H0 B H σ F _ fun p vs B1 H1 w1 l1 h0 h1 h2 r => k _ B1 H1 (F.setNew w1 l1 h0 h1 h2 r) l1.bb
theorem xs_ret (h : Ev T K te ρ d) : XS T K cl W (tRet te) ρ (.rt d) := fun B0 H0 B H σ D F k => h B0 H0 B H σ F _ (k.at F.le)
theorem xs_retN (h : EvN T K te ρ ds) : XS T K cl W (tRet te) ρ (.rn ds) := fun B0 H0 B H σ D F k => h B0 H0 B H σ F _ (k.at F.le)
theorem xs_retO (e : ρ[i]? = some (.own ds)) : XS T K cl W (tRet (tVar i)) ρ (.rn ds) := fun B0 H0 B H σ D F k => by
  obtain ⟨p, vs, hs, h1, r, h2, h3⟩ := F.own e
  exact ⟨_, hs, k p vs B H F.wf F.le h3 h2 h1 r⟩
theorem xs_retU : XS T K cl W tRetN ρ (.rt .none) := fun B0 H0 B H σ D F k => k _ B H F.wf F.le .non
theorem xs_drop (h : Ev T K te ρ d) : XS T K cl W (tDrop te) ρ (.nx ρ) := fun B0 H0 B H σ D F k => h B0 H0 B H σ F _ fun v B1 H1 w1 l1 r => k σ B1 H1 (F.mono w1 l1) l1.bb
theorem xs_brk : XS T K cl W tBreak ρ (.bk ρ) := fun B0 H0 B H σ D F k => k σ B H F (LamX.ExtN.refl _)
theorem xs_cont : XS T K cl W tCont ρ (.ct ρ) := fun B0 H0 B H σ D F k => k σ B H F (LamX.ExtN.refl _)
section
variable {E : XK} {r : Res}
def Res.drop (ρ : List Slot) : Res → Out
  | .ok _ => .nx ρ
  | .new _ => .nx ρ
  | .ex c fs => .ex c fs ρ
def Res.out (ρ : List Slot) : Res → Out
  | .ok d => .rt d
  | .new ds => .rn ds
  | .ex c fs => .ex c fs ρ
theorem xs_dropX (hE : ∀ cls dd σ H, W cls dd σ H → E cls dd H) (h : EvX T K cl E te ρ r) : XS T K cl W (tDrop te) ρ (r.drop ρ) := fun B0 H0 B H σ D F k => by
  refine h B0 H0 B H σ F _ ?_
  cases r with
  | ok d => exact fun v B1 H1 w1 l1 _ => k σ B1 H1 (F.mono w1 l1) l1.bb
  | new ds => exact fun p vs B1 H1 w1 l1 _ _ _ _ => k σ B1 H1 (F.mono w1 l1) l1.bb
  | ex c fs => exact fun cls dd B1 H1 w1 l1 e => hE _ _ _ _ (k σ B1 H1 cls dd (F.mono w1 l1) l1.bb e)
theorem xs_retX (hE : ∀ cls dd σ H, W cls dd σ H → E cls dd H) (h : EvX T K cl E te ρ r) : XS T K cl W (tRet te) ρ (r.out ρ) := fun B0 H0 B H σ D F k => by
  refine h B0 H0 B H σ F _ ?_
  cases r with
  | ok d => exact Ret.at k F.le
  | new ds => exact RetN.at k F.le
  | ex c fs => exact fun cls dd B1 H1 w1 l1 e => hE _ _ _ _ (k σ B1 H1 cls dd (F.mono w1 l1) l1.bb e)
end
/-- xs.append(e) -/
theorem xs_app (e : ρ[i]? = some (.own ds)) (h : Ev T K te ρ d) (hz : ds.length < 100000) : XS T K cl W (tDrop (tBM K "list" rAppend (tVar i) (tCons te tNil))) ρ (.nx (ρ.set i (.own (ds ++ [d])))) := fun B0 H0 B H σ D F k => by
  obtain ⟨p, vs, hs, h1, r, h2, h3⟩ := F.own e
  refine ⟨.ref p, hs, .inl ⟨rfl, vs, SqL.of h1⟩, h B0 H0 B H σ F _ fun v B1 H1 w1 l1 rv => ?_⟩
  have h1' := l1.hh _ _ h1 (fun ps z => by cases z)
  refine ⟨p, vs, v, rfl, rfl, h1', ?_, ?_⟩
  · rw [r.len]; exact Nat.lt_of_lt_of_le hz (by decide)
  · exact k σ B1 _ ((F.mono w1 l1).mut e hs ((r.mono l1.bb).append (.cons rv .nil))) l1.bb
/-- xs[n] = e -/
theorem xs_setI {n : Int} {m : Nat} (e : ρ[i]? = some (.own ds)) (h : Ev T K te ρ d) (hi : Ev T K ti ρ (.int n)) (hm : ixN ds.length n = some m) : XS T K cl W (tAsg te (gSub (tVar i) ti rSetL)) ρ (.nx (ρ.set i (.own (ds.set m d)))) := fun B0 H0 B H σ D F k => by
  obtain ⟨p, vs, hs, h1, r, h2, h3⟩ := F.own e
  refine h B0 H0 B H σ F _ fun v B1 H1 w1 l1 rv => ⟨.ref p, hs, hi B0 H0 B1 H1 σ (F.mono w1 l1) _ fun y B2 H2 w2 l2 ry => ?_⟩
  cases ry
  refine ⟨p, vs, n, m, rfl, rfl, (l1.trans l2).hh _ _ h1 (fun ps z => by cases z), by rw [r.len]; exact hm, ?_⟩
  exact k σ B2 _ ((F.mono w2 (l1.trans l2)).mut e hs ((r.mono (l1.trans l2).bb).set (rv.mono l2.bb) m)) (l1.trans l2).bb
/-- x += e of ints -/
theorem xs_aug {f : Int → Int → Int} {x y : Int} (e : ρ[i]? = some (.dat (.int x))) (h : Ev T K te ρ (.int y)) : XS T K cl W (tAug i te (ipI f)) ρ (.nx (ρ.set i (.dat (.int (f x y))))) := fun B0 H0 B H σ D F k => by
  obtain ⟨v, hs, r⟩ := F.dat e
  cases r
  refine ⟨_, hs, h B0 H0 B H σ F _ fun z B1 H1 w1 l1 rz => ?_⟩
  cases rz
  exact ⟨x, y, rfl, rfl, k _ B1 H1 ((F.mono w1 l1).setD (.int _)) l1.bb⟩
end

/-! ### loops -/
inductive LS (S : Type) where
  | go (s : S)
  | br (s : S)
  | rt (d : D)
  | rn (ds : List D)
  | ex (c : Str) (fs : List (Str × D))
def loopM {S α : Type} (step : S → α → LS S) : List α → S → LS S
  | [], s => .go s
  | a :: l, s => match step s a with
    | .go s' => loopM step l s'
    | o => o
theorem loopM_append {S α : Type} {step : S → α → LS S} : ∀ {l1 l2 : List α} {s s' : S}, loopM step l1 s = .go s' → loopM step (l1 ++ l2) s = loopM step l2 s'
  | [], l2, s, s', h => by cases h; rfl
  | a :: l1, l2, s, s', h => by
    show (match step s a with | .go s' => loopM step (l1 ++ l2) s' | o => o) = _
    have h' : (match step s a with | .go s' => loopM step l1 s' | o => o) = LS.go s' := h
    cases q : step s a with
    | go s1 => rw [q] at h'; exact loopM_append h'
    | br s1 => rw [q] at h'; cases h'
    | rt d => rw [q] at h'; cases h'
    | rn ds => rw [q] at h'; cases h'
    | ex c fs => rw [q] at h'; cases h'
/-- a loop that goes through -/
theorem loopM_fold {S α : Type} {step : S → α → LS S} {f : S → α → S} : ∀ {l : List α} {s : S}, (∀ s a, a ∈ l → step s a = .go (f s a)) → loopM step l s = .go (l.foldl f s)
  | [], s, _ => rfl
  | a :: l, s, h => by
    show (match step s a with | .go s' => loopM step l s' | o => o) = _
    rw [h s a List.mem_cons_self]
    exact loopM_fold fun s b hb => h s b (List.mem_cons_of_mem _ hb)
section
variable {S α : Type} (r : S → List Slot) (ρe : List Slot)
def lsOut : LS S → Out
  | .go s => .nx (r s)
  | .br s => .nx (r s)
  | .rt d => .rt d
  | .rn ds => .rn ds
  | .ex c fs => .ex c fs ρe
def Fits : Out → LS S → Prop
  | .nx ρ, .go s => Wk ρ (r s)
  | .ct ρ, .go s => Wk ρ (r s)
  | .bk ρ, .br s => Wk ρ (r s)
  | .rt d, .rt d' => d = d'
  | .rn ds, .rn ds' => ds = ds'
  | .ex c fs ρ, .ex c' fs' => c = c' ∧ fs = fs' ∧ Wk ρ ρe
  | _, _ => False
end
section
variable {T : Tbs} {K : PySem.W.Frag} {cl : Str → Addr} {ρ ρe : List Slot} {W : WX} {tu : TS} {tl : TE} {j : Nat} {S α : Type} {l : List α} {e : α → D} {r : S → List Slot} {step : S → α → LS S} {s0 : S} {I : Nat → S → Prop}
def ForW (T : Tbs) (K : PySem.W.Frag) (B0 H0 B1 : Hp) (l : List α) (r : S → List Slot) (step : S → α → LS S) (s0 : S) (I : Nat → S → Prop) (i : Nat) (σ : L2.St) (H : Hp) : Prop :=
  ∃ B s, Fm T K B0 H0 B H σ (r s) ∧ ExN B1 B ∧ loopM step (l.take i) s0 = .go s ∧ I i s
theorem for_turn {B0 H0 B1 : Hp} {D' : Ends} {σ : L2.St} {H : Hp} {i : Nat} {a : α} {x : V} (k : Sat T K cl B0 H0 B1 W D' (lsOut r ρe (loopM step l s0))) (ha : l[i]? = some a) (hx : Rp K B1 x (e a))
    (hb : ∀ s, I i s → ∃ o, XS T K cl W tu ((r s).set j (.dat (e a))) o ∧ Fits r ρe o (step s a) ∧ ∀ s', step s a = .go s' → I (i + 1) s') (p : ForW T K B0 H0 B1 l r step s0 I i σ H) :
    tu { D' with nx := ForW T K B0 H0 B1 l r step s0 I (i + 1), ct := ForW T K B0 H0 B1 l r step s0 I (i + 1), bk := D'.nx } (σ.set j (some x)) H := by
  obtain ⟨B, s, F, ex, hs, hI⟩ := p
  obtain ⟨o, hX, hF, hn⟩ := hb s hI
  have hall : l = l.take i ++ a :: l.drop (i + 1) := by
    obtain ⟨hl, e1⟩ := List.getElem?_eq_some_iff.mp ha
    rw [← e1, List.getElem_cons_drop, List.take_append_drop]
  have htot : loopM step l s0 = (match step s a with | .go s' => loopM step (l.drop (i + 1)) s' | o => o) := by
    conv => lhs; rw [hall]
    rw [loopM_append hs]
    rfl
  have hnext : ∀ s', step s a = .go s' → loopM step (l.take (i + 1)) s0 = .go s' := fun s' h => by
    rw [take_succ' ha, loopM_append hs]
    show (match step s a with | .go s' => loopM step [] s' | o => o) = _
    rw [h]
    rfl
  refine hX B0 H0 B H _ _ (F.setD (hx.mono ex)) ?_
  cases q : step s a with
  | go s' =>
    rw [q] at hF
    cases o with
    | nx ρ' => exact fun σ' B' H' F' e' => ⟨B', s', F'.weak hF, ex.trans e', hnext s' q, hn s' q⟩
    | ct ρ' => exact fun σ' B' H' F' e' => ⟨B', s', F'.weak hF, ex.trans e', hnext s' q, hn s' q⟩
    | _ => exact hF.elim
  | br s' =>
    rw [q] at hF
    rw [htot, q] at k
    cases o with
    | bk ρ' => exact fun σ' B' H' F' e' => k σ' B' H' (F'.weak hF) (ex.trans e')
    | _ => exact hF.elim
  | rt d =>
    rw [q] at hF
    rw [htot, q] at k
    cases o with
    | rt d' => cases (show d' = d from hF); exact k
    | _ => exact hF.elim
  | rn ds =>
    rw [q] at hF
    rw [htot, q] at k
    cases o with
    | rn d' => cases (show d' = ds from hF); exact k
    | _ => exact hF.elim
  | ex c fs =>
    rw [q] at hF
    rw [htot, q] at k
    cases o with
    | ex c' fs' ρ' =>
      obtain ⟨e1, e2, w⟩ := (show c' = c ∧ fs' = fs ∧ Wk ρ' ρe from hF)
      subst e1; subst e2
      exact fun σ' B' H' cls dd F' e' er => k σ' B' H' cls dd (F'.weak w) (ex.trans e') er
    | _ => exact hF.elim
theorem xs_for (hl : Ev T K tl ρ (.list (l.map e))) (h0 : Wk ρ (r s0)) (i0 : I 0 s0)
    (hb : ∀ (i : Nat) (s : S) (a : α), l[i]? = some a → I i s → ∃ o, XS T K cl W tu ((r s).set j (.dat (e a))) o ∧ Fits r ρe o (step s a) ∧ ∀ s', step s a = .go s' → I (i + 1) s') :
    XS T K cl W (tFor (iList K tl) (gName j) tu) ρ (lsOut r ρe (loopM step l s0)) := fun B0 H0 B H σ D' F k => by
  refine hl B0 H0 B H σ F _ fun v B1 H1 w1 l1 rv => ?_
  cases rv with
  | @lst p vs ds hp rr =>
    have hp1 : H1 p = some (.lst vs) := w1.bh _ _ hp (fun ps z => by cases z)
    have hlen : vs.length = l.length := by rw [rr.len, List.length_map]
    have k1 := k.step l1.bb
    refine ⟨p, rfl, ⟨vs, SqL.of hp1⟩, for_list (xs := vs) (ForW T K B0 H0 B1 l r step s0 I) ⟨B1, s0, (F.mono w1 l1).weak h0, LamX.ExtN.refl _, rfl, i0⟩ (fun i σ' H' _ ⟨B', _, F', ex, _⟩ => SqL.of (F'.wf.bh _ _ (ex _ _ hp (fun ps z => by cases z)) (fun ps z => by cases z))) (fun i x σ' H' hx q => ?_) (fun σ' H' q => ?_)⟩
    · obtain ⟨d, hd, rd⟩ := rr.getV hx
      rw [List.getElem?_map] at hd
      cases q2 : l[i]? with
      | none => rw [q2] at hd; cases hd
      | some a =>
        rw [q2] at hd
        have hd' : some (e a) = some d := hd
        cases hd'
        exact for_turn k1 q2 rd (fun s => hb i s a q2) q
    · obtain ⟨B', s, F', ex, hs, _⟩ := q
      rw [hlen, List.take_length] at hs
      rw [hs] at k1
      exact k1 σ' B' H' F' ex
end
section
variable {T : Tbs} {K : PySem.W.Frag} {cl : Str → Addr} {ρ ρe : List Slot} {W : WX} {tu : TS} {ta : TA} {j n : Nat} {S : Type} {r : S → List Slot} {step : S → Nat → LS S} {s0 : S} {I : Nat → S → Prop}
theorem xs_forR {z : Int} (hl : EvA T K ta ρ [.int z]) (hz : z = (n : Int)) (hn : n ≤ 100000) (h0 : Wk ρ (r s0)) (i0 : I 0 s0)
    (hb : ∀ (i : Nat) (s : S), i < n → I i s → ∃ o, XS T K cl W tu ((r s).set j (.dat (.int (i : Int)))) o ∧ Fits r ρe o (step s i) ∧ ∀ s', step s i = .go s' → I (i + 1) s') :
    XS T K cl W (tFor (iRng1 ta) (gName j) tu) ρ (lsOut r ρe (loopM step (List.range n) s0)) := fun B0 H0 B H σ D' F k => by
  refine ea_one hl F _ fun v B1 H1 w1 l1 rv => ?_
  cases rv
  subst hz
  have k1 := k.step l1.bb
  have e0 : (n : Int).toNat = n := by simp
  refine ⟨_, rfl, by omega, by omega, ?_⟩
  rw [e0]
  refine for_range (lo := 0) (n := n) (ForW T K B0 H0 B1 (List.range n) r step s0 I) ⟨B1, s0, (F.mono w1 l1).weak h0, LamX.ExtN.refl _, rfl, i0⟩ (fun i σ' H' hi q => ?_) (fun σ' H' q => ?_)
  · have e1 : (0 : Int) + (i : Int) = (i : Int) := Int.zero_add _
    rw [e1]
    exact for_turn (e := fun m : Nat => PyData.int (m : Int)) k1 (range_get hi) (.int _) (fun s => hb i s hi) q
  · obtain ⟨B', s, F', ex, hs, _⟩ := q
    rw [List.take_of_length_le (by rw [List.length_range]; omega)] at hs
    rw [hs] at k1
    exact k1 σ' B' H' F' ex
end

/-! ### a def's body -/
def st0 (N : List Str) (ds : List D) : List Slot := ds.map .dat ++ List.replicate (N.length - ds.length) .any
def OutRes : Out → Res → Prop
  | .rt d, .ok d' => d = d'
  | .nx _, .ok d => d = .none
  | .rn ds, .new ds' => ds = ds'
  | .rn ds, .ok d => d = .list ds
  | .ex c fs _, .ex c' fs' => c = c' ∧ fs = fs'
  | _, _ => False
section
variable {T : Tbs} {K : PySem.W.Frag} {cl : Str → Addr} {N : List Str} {vs : List V} {B H : Hp} {Q : VK} {E : XK} {R : List D → Res → Prop} {t : TS} {ds : List D}
theorem fm_start (w : Wf T B H) (r : RpAll K B vs ds) : Fm T K B H B H (L2.start N vs) (st0 N ds) where
  wf := w
  le := Le.refl B H
  len := by
    unfold L2.start st0
    simp [r.len]
  sl := fun i s e => by
    unfold st0 at e
    unfold L2.start
    by_cases h : i < ds.length
    · rw [List.getElem?_append_left (by rw [List.length_map]; exact h), List.getElem?_map] at e
      rw [List.getElem?_append_left (by rw [List.length_map, r.len]; exact h), List.getElem?_map]
      cases q : ds[i]? with
      | none => rw [q] at e; cases e
      | some d =>
        rw [q] at e
        cases e
        obtain ⟨v, hv, rv⟩ := r.get q
        rw [hv]
        exact ⟨some v, rfl, v, rfl, rv⟩
    · rw [List.getElem?_append_right (by rw [List.length_map]; omega), List.length_map] at e
      rw [List.getElem?_append_right (by rw [List.length_map, r.len]; omega), List.length_map, r.len]
      have hl := (List.getElem?_eq_some_iff.mp e).1
      rw [List.length_replicate] at hl
      rw [List.getElem?_replicate, if_pos hl] at e
      cases e
      rw [List.getElem?_replicate, if_pos hl]
      exact ⟨none, rfl, trivial⟩
  ap := fun i j ds1 ds2 p ei _ _ _ => by
    unfold st0 at ei
    by_cases h : i < ds.length
    · rw [List.getElem?_append_left (by rw [List.length_map]; exact h), List.getElem?_map] at ei
      cases q : ds[i]? with
      | none => rw [q] at ei; cases ei
      | some d => rw [q] at ei; cases ei
    · rw [List.getElem?_append_right (by rw [List.length_map]; omega), List.length_map] at ei
      have hl := (List.getElem?_eq_some_iff.mp ei).1
      rw [List.length_replicate] at hl
      rw [List.getElem?_replicate, if_pos hl] at ei
      cases ei
theorem fn_run (h : SpX T K cl R vs H Q E) (hb : ∀ ds r, R ds r → ∃ o, XS T K cl (fun c d _ H => E c d H) t (st0 N ds) o ∧ OutRes o r) : t { nx := fun _ H' => Q .non H', rt := Q } (L2.start N vs) H := by
  obtain ⟨B, ds, r, w, rp, hR, k⟩ := h
  obtain ⟨o, hX, hO⟩ := hb ds r hR
  refine hX B H B H _ _ (fm_start w rp) ?_
  cases o with
  | nx ρ =>
    cases r with
    | ok d =>
      cases (show d = .none from hO)
      exact fun σ B' H' F _ => k .non B' H' F.wf F.le .non
    | _ => exact hO.elim
  | rt d =>
    cases r with
    | ok d' => cases (show d = d' from hO); exact k
    | _ => exact hO.elim
  | rn es =>
    cases r with
    | ok d => cases (show d = .list es from hO); exact RetN.ofD k
    | new es' => cases (show es = es' from hO); exact k
    | ex c fs => exact hO.elim
  | ex c fs ρ =>
    cases r with
    | ex c' fs' =>
      obtain ⟨e1, e2⟩ := (show c = c' ∧ fs = fs' from hO)
      subst e1; subst e2
      exact fun σ B' H' cls dd F _ er => k cls dd B' H' F.wf F.le er
    | _ => exact hO.elim
  | _ => cases r <;> exact hO.elim
theorem spx_len {n : Nat} (hR : ∀ ds r, R ds r → ds.length = n) (h : SpX T K cl R vs H Q E) : vs.length = n := by
  obtain ⟨B, ds, r, _, rp, hr, _⟩ := h
  rw [rp.len]; exact hR ds r hr
end
end XL
/-! XL, part e: own error classes, raise, try with several named clauses. -/
namespace XL
open PySem PySem.Spec PyProof.Rows L2

/-! ### several clauses, each with a name -/
abbrev Clause := Value × Nat × (Addr → Value → Option Addr → TS)
def endAs (D : Ends) (i : Nat) : Ends := { nx := fun σ' H' => D.nx (σ'.set i none) H', rt := D.rt, bk := fun σ' H' => D.bk (σ'.set i none) H', ct := fun σ' H' => D.ct (σ'.set i none) H' }
def wAll (K : PySem.W.Frag) (Wout : WX) (D : Ends) : List Clause → WX
  | [] => Wout
  | q :: r => fun cls d σ H => ∃ b, PySem.W.exmOne K cls q.1 = some b ∧ (b = true → ∀ a, H a = none → q.2.2 a cls d (endAs D q.2.1) (σ.set q.2.1 (some (.ref a))) H) ∧ (b = false → wAll K Wout D r cls d σ H)
inductive Clauses (X : Cx) : List ExceptHandler → List Clause → Prop
  | nil : Clauses X [] []
  | cons {x n : Str} {c : Value} {i : Nat} {ts : Addr → Value → Option Addr → TS} {b₀ : Stmt} {suite : List Stmt} {np pos' : Pos} {hds : List ExceptHandler} {l : List Clause}
      (hi : X.N[i]? = some n) (hln : X.env.kindOf n = some .local) (hc : Names X x c)
      (hsu : ∀ (a : Addr) (oe : Obj) (cls : Value) (d : Option Addr) (pn : List (Addr × Obj)), Zc cls d oe → (∃ vs, oe.data = .fields vs) → PSs (X.suite a ((a, oe) :: pn)) (b₀ :: suite) (ts a cls d)) (r : Clauses X hds l) :
      Clauses X (.ExceptHandler (some (.Name x np)) (some n) (b₀ :: suite) pos' :: hds) ((c, i, ts) :: l)
section
variable {X : Cx} {pins : List (Addr × Obj)}
/-- an exception that has come down to the try at X: what is known of it -/
structure Came (X : Cx) (pins : List (Addr × Obj)) (a : Addr) (B : Heap) (sI s' : Shared) (σ : L2.St) (H : Hp) (cls : Value) (d : Option Addr) (h3 : Heap) : Prop where
  J : Inv X pins σ H sI
  nb : ∀ b o, sI.heap.get? b = some o → b ∉ frs X.stack → B.get? b = some o
  up : sI.heap.UpToSlots h3
  fl : HandSPX.FlyingZ B (X.env :: X.outer) a (Zc cls d) h3
  na : H a = none
  os : s'.os = sI.os
  ag : AllBare s'.gens
  nL : a ≠ X.env.locals
  nF : a ∉ X.fs
theorem clauses_run (hs : X.stack = X.env :: X.outer) (hf : X.env.frame = some X.env.locals) (hN : X.N.Nodup) {Wout : WX} (tk : Takes X Wout) {D : Ends} {a : Addr} {B : Heap} {sI s' : Shared} {σ : L2.St} {H : Hp} {cls : Value} {d : Option Addr} {h3 : Heap}
    (C : Came X pins a B sI s' σ H cls d h3) {hds : List ExceptHandler} {l : List Clause} (hk : Clauses X hds l) : wAll X.K Wout D l cls d σ H →
      wpAny (model X.prog X.w) X.A (handleBy (.ref a) X.env hds) (SP X pins D) X.xe { s' with heap := h3 } := by
  have ok := C.J.ok
  induction hk with
  | nil =>
    intro wo
    refine wpAny_handleBy_nil ?_
    obtain ⟨_, _, _, oe, vs, T, oT, ts', he, hz, hd, h1, hr⟩ := id C.fl
    unfold PySem.passOn
    refine wpAny_bind (wpAny_field he hd h1 ?_)
    rw [if_neg (show ¬ ((Value.ref T == Value.none) = true) from by simp)]
    have again : wpAny (model X.prog X.w) X.A (setFlight (.ref a) X.env.frame) (fun _ s4 => wpAny (model X.prog X.w) X.A (throw (.ref a) : Sem Flow) (SP X pins D) X.xe s4) X.xe { s' with heap := h3 } := by
      rw [hf]
      refine HandSPX.setFlight_upZ C.fl fun h4 hh4 up4 => wpAny_throw (tk _ _ ?_)
      exact ⟨a, B, sI, pins, σ, H, cls, d, rfl, C.J, C.nb, C.up.trans up4, .inr (.inr (by rw [hs]; exact hh4)), C.na, C.os, C.ag, wo⟩
    first
      | exact wpAny_bind (wpAny_pure (wpAny_bind again))
      | exact wpAny_bind again
  | @cons x n c i ts b₀ suite np pos' hds2 l2 hi hln hc hsu r ih =>
    intro wo
    obtain ⟨b, hb1, hyes, hno⟩ := wo
    obtain ⟨oe3, vs3, he3, hz3, hd3⟩ := C.fl.there
    have J3 : Inv X pins σ H { s' with heap := h3 } := C.J.landed C.nb C.fl.1 C.up C.os C.ag
    have S3 := J3.suite he3 hd3 C.na C.nL C.nF
    refine wpAny_handleBy_cons (codeAny_handlers_test ?_) (by intro q; cases q)
    have LT : PySem.W.Looks (model X.prog X.w) h3 (typeOf (.ref a)) cls := fun A Q E s k q => wpAny_typeOf_ref (k _ _ he3) (by rw [hz3.1]; exact q)
    have LM := PySem.W.exm_one (M := model X.prog X.w) (J3.kIn) LT hb1
    have named : ∀ {Q : Value → Shared → Prop} {E : Value → Shared → Prop}, Q c { s' with heap := h3 } → wpAny (model X.prog X.w) (X.A.mark (some (.ref a))) (eval (.Name x np) X.env) Q E { s' with heap := h3 } := fun {Q E} q => by
      obtain ⟨hg, hdbg, hm | ⟨hm, hv, hnn⟩⟩ := hc
      · exact ld_glob (X := X.suite a ((a, oe3) :: (X.pn ++ pins))) S3 hg hm q hdbg
      · exact ld_blt (X := X.suite a ((a, oe3) :: (X.pn ++ pins))) S3 hg hm hv q hnn hdbg
    refine named (LM.here ?_)
    cases b with
    | false =>
      show wpAny _ X.A (handleBy (.ref a) X.env hds2) _ _ _
      exact ih (hno rfl)
    | true =>
      refine codeAny_handlers_suite_as ?_
      refine HandSPX.lands_againZ C.fl fun h4 fl4 up4 => ?_
      have J4 : Inv X pins σ H { s' with heap := h4 } := C.J.landed C.nb fl4.1 (C.up.trans up4) C.os C.ag
      obtain ⟨oe4, vs4, he4, hz4, hd4⟩ := fl4.there
      have S4 := J4.suite he4 hd4 C.na C.nL C.nF
      refine store_ok (X := X.suite a ((a, oe4) :: (X.pn ++ pins))) (v := .ref a) S4 hN hi (.inl hln) rfl (fun s5 S5 => ?_) (.inr hln)
      refine wpAny_mono ((hsu a oe4 cls d (X.pn ++ pins) hz4 ⟨_, hd4⟩).run [] s5 _ H _ S5 (hyes rfl a C.na)) (fun f s6 hsp => ?_) (fun _ _ z => False.elim z)
      have last : ∀ {σ6 : L2.St} {H6 : Hp} {Q : Shared → Prop}, Inv (X.suite a ((a, oe4) :: (X.pn ++ pins))) [] σ6 H6 s6 → (∀ s7, Inv X pins (σ6.set i none) H6 s7 → Q s7) →
          wpAny (model X.prog X.w) X.A (do bindName X.env n .none; unbindBehindTheSuite X.env n pos') (fun _ s7 => Q s7) X.xe s6 := fun {σ6 H6 Q} S6 hq => gone_ok (S6.unsuite ok) hN hi hln hq
      cases f with
      | next => obtain ⟨σ6, H6, S6, q6⟩ := hsp; exact last S6 fun s7 J7 => ⟨_, _, J7, q6⟩
      | brk => obtain ⟨σ6, H6, S6, q6⟩ := hsp; exact last S6 fun s7 J7 => ⟨_, _, J7, q6⟩
      | cont => obtain ⟨σ6, H6, S6, q6⟩ := hsp; exact last S6 fun s7 J7 => ⟨_, _, J7, q6⟩
      | ret u => obtain ⟨v6, σ6, H6, S6, r6, q6⟩ := hsp; exact last S6 fun s7 J7 => ⟨_, _, _, J7, r6, q6⟩
variable {body : List Stmt} {h₀ : ExceptHandler} {hds : List ExceptHandler} {l : List Clause} {pos : Pos} {tb : WX → TS} {Wout : WX}
/-- try: body / except X as n: .. / except Y as m: .. -/
theorem ps_tryAs (hs : X.stack = X.env :: X.outer) (hf : X.env.frame = some X.env.locals) (hN : X.N.Nodup) (tk : Takes X Wout)
    (hb : ∀ (W : WX) (pn : List (Addr × Obj)) (xe : Value → Shared → Prop), Takes (X.tr pn xe) W → PassesOwn (model X.prog X.w) X.A X.env xe → PSs (X.tr pn xe) body (tb W))
    (hh : Clauses X (h₀ :: hds) l) : PS X (.Try body (h₀ :: hds) [] [] pos) (fun D σ H => tb (wAll X.K Wout D l) D σ H) := by
  refine ⟨fun pins s σ H D I h => ?_⟩
  have ok := I.ok
  have hfr : X.A.frames = some (X.env :: X.outer) := by rw [ok.frames, hs]
  refine wpAny_Try_except ?_
  refine wpAny_mono ((hb (wAll X.K Wout D l) (X.pn ++ pins) (fun e s₁ => wpAny (model X.prog X.w) X.A (noteFrame e X.env) (fun _ s₂ => wpAny (model X.prog X.w) X.A (setFlight e none) (fun _ s₃ =>
    wpAny (model X.prog X.w) X.A (handleBy e X.env (h₀ :: hds)) (SP X pins D) X.xe s₃) X.xe s₂) X.xe s₁) (fun u s' xx => ?_) PassesOwn.looking).run [] s σ H D (I.toTry _) h) (fun f s1 hsp => ?_) (fun e s1 he => he)
  · obtain ⟨a, B, sI, pins', σ', H', cls, d, rfl, J', nb, up, sky, na, os, ag, wo⟩ := xx
    have J : Inv X pins σ' H' sI := J'.ofTry ok
    have sky' : Sky B (X.env :: X.outer) a (Zc cls d) X.env.locals s'.heap := by rw [← hs]; exact sky
    show wpAny (model X.prog X.w) X.A (noteFrame (.ref a) X.env) _ _ _
    refine Sky.land Zc.steady hfr hf sky' fun h3 fl3 up3 => ?_
    obtain ⟨oe3, vs3, he3, hz3, hd3⟩ := fl3.there
    have nfr : a ∉ frs (X.env :: X.outer) := fun hm => by
      obtain ⟨_, o', e', hnf⟩ := fl3.2.2.1.mem hm
      rw [he3] at e'
      cases e'
      exact hnf _ hd3
    have nL : a ≠ X.env.locals := fun z => nfr (List.mem_filterMap.mpr ⟨X.env, List.mem_cons_self, by rw [hf, z]⟩)
    have nF : a ∉ X.fs := fun hm => by
      obtain ⟨e, he, q⟩ := List.mem_filterMap.mp hm
      exact nfr (List.mem_filterMap.mpr ⟨e, List.mem_cons_of_mem _ he, q⟩)
    exact clauses_run hs hf hN tk ⟨J, nb, up.trans up3, fl3, na, os, ag, nL, nF⟩ hh wo
  · cases f with
    | next => obtain ⟨σ', H', J', q⟩ := hsp; exact wpAny_execs_nil ⟨σ', H', J'.ofTry ok, q⟩
    | brk => obtain ⟨σ', H', J', q⟩ := hsp; exact ⟨σ', H', J'.ofTry ok, q⟩
    | cont => obtain ⟨σ', H', J', q⟩ := hsp; exact ⟨σ', H', J'.ofTry ok, q⟩
    | ret u => obtain ⟨v, σ', H', J', r, q⟩ := hsp; exact ⟨v, σ', H', J'.ofTry ok, r, q⟩
end

/-! ### facts of the own error classes, as one Bool -/
def oexB (K : PySem.W.Frag) (C : Addr) : Bool :=
  (match K.lookup C with
    | some ⟨.type "type", _, .cls cd, sl⟩ => (match cd.mro, sl.toList with
      | .ref C' :: bm, [_, _, _, _, some (.builtin n), _] => C' == C && n == "ValueError.__new__" && !cd.hasDel && cd.hasDict && HandSPX.refsVE bm
      | _, _ => false)
    | _ => false) && (decide (PySem.W.findIn K (.ref C) "__setattr__" = some (some (.builtin "object.__setattr__"))) && (decide (PySem.W.subIn K (.ref C) (.type "BaseException") = some true) &&
      (decide (PySem.W.typeIn K (.ref C) = some (.type "type")) && PySem.W.keepIn K (.ref C))))
theorem oexB_ok {K : PySem.W.Frag} {C : Addr} (h : oexB K C = true) : OexC K C := by
  obtain ⟨h0, h⟩ := He.ba h
  obtain ⟨h1, h⟩ := He.ba h
  obtain ⟨h2, h⟩ := He.ba h
  obtain ⟨h3, h4⟩ := He.ba h
  refine ⟨?_, of_decide_eq_true h1, of_decide_eq_true h2, of_decide_eq_true h3, h4⟩
  cases q : K.lookup C with
  | none => rw [q] at h0; cases h0
  | some o =>
    rw [q] at h0
    split at h0
    · rename_i dd cd sl ho
      cases ho
      split at h0
      · rename_i C' bm k0 k1 k2 k3 n k5 hm hs
        simp only [Bool.and_eq_true, beq_iff_eq, Bool.not_eq_true'] at h0
        obtain ⟨⟨⟨⟨rfl, rfl⟩, hdel⟩, hdi⟩, hr⟩ := h0
        obtain ⟨nm, bs, mro, ns, qn, hd, sn, sub, ab, col, del⟩ := cd
        dsimp only at hm hdel hdi
        subst hm hdel hdi
        have hsl : sl = #[k0, k1, k2, k3, some (.builtin "ValueError.__new__"), k5] := by
          obtain ⟨l⟩ := sl
          simp only at hs
          rw [hs]
        subst hsl
        exact ⟨nm, qn, ns, bs, bm, sn, sub, ab, col, dd, k0, k1, k2, k3, k5, rfl, hr⟩
      · cases h0
    · cases h0
/-- one class and its fields -/
def exOneB (K : PySem.W.Frag) (p : Str × List Str) : Bool :=
  oexB K (He.ga K p.1) && (xfB K (He.ga K p.1) && (p.2.all (fun f => decide (PySem.W.findIn K (.ref (He.ga K p.1)) f = some none)) &&
    (decide (PySem.W.findIn K (.ref (He.ga K p.1)) "__init__" = some (some (.ref (He.ma K (He.ga K p.1) "__init__")))) && decide (PySem.W.typeIn K (.ref (He.ma K (He.ga K p.1) "__init__")) = some (.type "function")))))
/-- all of them, and which of them is caught by which -/
def exAllB (K : PySem.W.Frag) (l : List (Str × List Str)) : Bool :=
  l.all (exOneB K) && l.all fun p => l.all fun q => decide (PySem.W.exmOne K (.ref (He.ga K p.1)) (.ref (He.ga K q.1)) = some (p.1 == q.1))
structure ExF (K : PySem.W.Frag) (p : Str × List Str) : Prop where
  o : OexC K (He.ga K p.1)
  x : XfC K (He.ga K p.1)
  no : ∀ f ∈ p.2, PySem.W.findIn K (.ref (He.ga K p.1)) f = some none
  iC : PySem.W.findIn K (.ref (He.ga K p.1)) "__init__" = some (some (.ref (He.ma K (He.ga K p.1) "__init__")))
  tI : PySem.W.typeIn K (.ref (He.ma K (He.ga K p.1) "__init__")) = some (.type "function")
theorem exF_of {K : PySem.W.Frag} {l : List (Str × List Str)} (h : exAllB K l = true) {p : Str × List Str} (hp : p ∈ l) : ExF K p := by
  obtain ⟨h1, _⟩ := He.ba h
  have h2 := List.all_eq_true.mp h1 p hp
  obtain ⟨a, h2⟩ := He.ba h2
  obtain ⟨b, h2⟩ := He.ba h2
  obtain ⟨c, h2⟩ := He.ba h2
  obtain ⟨d, e⟩ := He.ba h2
  exact ⟨oexB_ok a, xfB_ok b, fun f hf => of_decide_eq_true (List.all_eq_true.mp c f hf), of_decide_eq_true d, of_decide_eq_true e⟩
theorem exm_of {K : PySem.W.Frag} {l : List (Str × List Str)} (h : exAllB K l = true) {p q : Str × List Str} (hp : p ∈ l) (hq : q ∈ l) : PySem.W.exmOne K (.ref (He.ga K p.1)) (.ref (He.ga K q.1)) = some (p.1 == q.1) :=
  of_decide_eq_true (List.all_eq_true.mp (List.all_eq_true.mp (He.ba h).2 p hp) q hq)

/-! ### raise C(e) of a class with one field -/
/-- the promise of such an __init__ -/
def spIni (K : PySem.W.Frag) (C : Addr) (f : Str) : Sp := fun vs H Q _ => ∃ (a : Addr) (v : V), vs = [.ref a, v] ∧ OexC K C ∧ PySem.W.findIn K (.ref C) f = some none ∧ H a = some (exo a C none) ∧
  ∀ dx, H dx = none → dx ≠ a → Q .non (upd (upd H dx (exd dx [(f, v)])) a (exo a C (some dx)))
theorem ini_run {K : PySem.W.Frag} {C : Addr} {f : Str} {vs : List V} {H : Hp} {Q : VK} {E : XK} {N : List Str} (hN : N.length = 2) (h : spIni K C f vs H Q E) :
    (tOst K f (tVar 0) (tVar 1)) { nx := fun _ H' => Q .non H', rt := Q } (L2.start N vs) H := by
  obtain ⟨a, v, rfl, T, no, ha, k⟩ := h
  refine ⟨v, rfl, .ref a, rfl, a, C, rfl, T, no, .inl ⟨ha, fun dx h1 h2 => k dx h1 h2⟩⟩
section
variable {T : Tbs} {K : PySem.W.Frag} {cl : Str → Addr} {ρ : List Slot} {W : WX} {te : TE} {d : D} {C : Addr} {c f : Str}
/-- raise C(e): the statement's reading -/
theorem xs_raise1 (hC : cl c = C) (X : OexC K C) (no : PySem.W.findIn K (.ref C) f = some none) (h : Ev T K te ρ d) :
    XS T K cl W (fun _ σ H => tMkO C (spIni K C f) [] (tCons te tNil) σ H fun cls d H' => W cls d σ H') ρ (.ex c [(f, d)] ρ) := fun B0 H0 B H σ D F k => by
  refine h B0 H0 B H σ F _ fun v B1 H1 w1 l1 rv => ⟨by show 1 ≤ 1000; decide, fun a ha => ⟨a, v, rfl, X, no, upd_same, fun dx h1 h2 => ?_⟩⟩
  have hdx : H1 dx = none := by rw [upd_ne h2] at h1; exact h1
  refine ⟨rfl, dx, [(f, v)], upd_same, by rw [upd_ne h2, upd_same], hdx, ?_⟩
  have e : upd (del (upd (upd (upd H1 a (exo a C none)) dx (exd dx [(f, v)])) a (exo a C (some dx))) a) dx (.xd [(f, v)]) = upd H1 dx (.xd [(f, v)]) := by
    funext b
    by_cases hb : b = dx
    · subst hb; rw [upd_same, upd_same]
    · rw [upd_ne hb, upd_ne hb]
      by_cases hba : b = a
      · subst hba; rw [del_same, ha]
      · rw [del_ne hba, upd_ne hba, upd_ne hb, upd_ne hba]
  rw [e]
  refine k σ B1 _ _ _ (F.mono (w1.side hdx) (l1.trans (Le.side hdx))) l1.bb ⟨by rw [hC], dx, [(f, v)], rfl, upd_same, rfl, .cons rv .nil⟩
end
end XL
/-! XL, part f: sorted(.., key=lambda ..) over the layer. -/
namespace XL
open PySem PySem.W PySem.Spec PyProof.Rows L2 LamX NdefX

/-- the heap grows: all that was tracked stands, the tables stay tables -/
structure Kp (T : Tbs) (H H' : Hp) : Prop where
  hh : ExN H H'
  nn : ∀ b, H' b = none → H b = none
  tb : Tabs T H → Tabs T H'
theorem Kp.refl (T : Tbs) (H : Hp) : Kp T H H := ⟨LamX.ExtN.refl _, fun _ h => h, id⟩
theorem Kp.trans {T : Tbs} {H H1 H2 : Hp} (a : Kp T H H1) (b : Kp T H1 H2) : Kp T H H2 := ⟨a.hh.trans b.hh, fun c h => a.nn c (b.nn c h), fun t => b.tb (a.tb t)⟩
theorem Kp.new {T : Tbs} {H : Hp} {p : Addr} {o : HO} (h : H p = none) : Kp T H (upd H p o) := ⟨ExN.new h, fun b e => by
  by_cases q : b = p
  · subst q; exact h
  · rw [upd_ne q] at e; exact e, fun t => tabs_new t h⟩
theorem ExN.sqt {K : PySem.W.Frag} {H H' : Hp} {a : Addr} {xs : List V} (e : ExN H H') (h : SqT K H a xs) : SqT K H' a xs := by
  rcases h with h | h
  · exact .inl (e.rd (fun ps z => by cases z) h)
  · exact .inr h
mutual
theorem Dp.ext {K : PySem.W.Frag} {H H' : Hp} (e : ExN H H') : ∀ {v : V} {d : D}, Dp K H v d → Dp K H' v d
  | _, _, .non => .non
  | _, _, .bl b => .bl b
  | _, _, .int i => .int i
  | _, _, .str x => .str x
  | _, _, .lst h r => .lst (e.sql h) (DpAll.ext e r)
  | _, _, .tup h r => .tup (e.sqt h) (DpAll.ext e r)
theorem DpAll.ext {K : PySem.W.Frag} {H H' : Hp} (e : ExN H H') : ∀ {vs : List V} {ds : List D}, DpAll K H vs ds → DpAll K H' vs ds
  | _, _, .nil => .nil
  | _, _, .cons h r => .cons (Dp.ext e h) (DpAll.ext e r)
end
section
variable {X : Cx} {pins : List (Addr × Obj)} {σ : L2.St} {H : Hp} {s : Shared}
/-- a call of the function at f with what its parameters are given -/
theorem lam_call {A' : Around} {k : Nat} {N ps fr : List Str} {ws : List (Option V)} {params : Arguments} {body : Expr} {scope : Scope} {f c' : Addr} {pm ctv : Value} {q : Str} {cl : List (Str × Addr)} {us : List Value} {vs : List V} {t : TE} {Q : VK}
    (I : Inv X pins σ H s) (e0 : Env0 X.prog X.w X.K X.mg X.base A' X.stack s H) (hr : Room (k + 1) A') (S : NScope N ps fr scope)
    (hf : s.heap.get? f = some (PySem.W.kla_obj "<lambda>" q params body scope cl pm c' ctv)) (hc : H c' = some (CodeO c' q)) (C : CellsAt cl fr ws s.heap H)
    (hb : bindArgs (PySem.W.kla_fn "<lambda>" q params body scope cl pm (.ref c') ctv) ⟨us, []⟩ = pure (ps.zip us)) (r : Vals vs us) (hl : vs.length = ps.length)
    (hbody : ∀ (A : Around) (outer : List Env) (s : Shared) (H : Hp), Room k (A.deeper (envF ⟨"<lambda>", q, params, [], scope, cl, c'⟩ f s.heap.objs.size)) → PE (ncx C8.CX0 X.prog X.w X.K X.mg X.base N ⟨"<lambda>", q, params, [], scope, cl, c'⟩ f A outer s H C8.E0) body t)
    (hq : t (startF N vs ws) H Q) : codeAny (model X.prog X.w) A' (.call (.ref f) ⟨us, []⟩) (CR C8.CX0 X.stack X.prog X.w H s Q C8.E0) s := by
  obtain ⟨⟨oc, fs, tq, hoc, hdc, hvc⟩, _, _⟩ := I.hok c' _ hc
  refine PySem.W.kla_callFunE hr.depth hf rfl S.co S.gen rfl ⟨c', oc, fs, tq, rfl, hoc, hdc, hvc⟩ ?_
  rw [hb]
  refine wpAny_pure (wpAny_newFunctionEnv S.nocell (fun y hy => S.par y.1 (List.of_mem_zip (show (y.1, y.2) ∈ ps.zip us from hy)).1) (fun h₁ hns hsb => ⟨I.nolimit.fresh _ hsb, ?_⟩) S.kind)
  show codeAny _ _ (.expr body (envF ⟨"<lambda>", q, params, [], scope, cl, c'⟩ f s.heap.objs.size)) _ _
  have kp : ∀ b o, s.heap.get? b = some o → h₁.get? b = some o := fun b o e => hsb.extBut b o (Nat.ne_of_lt (Heap.lt_size e)) (Heap.get?_push_of_some _ e)
  have J : Inv (ncx C8.CX0 X.prog X.w X.K X.mg X.base N ⟨"<lambda>", q, params, [], scope, cl, c'⟩ f A' X.stack s H C8.E0) [] (startF N vs ws) H { s with heap := h₁, toks := s.toks + (ps.zip us).length } :=
    inv_startN S hr.hd e0 hl r C hns kp
  refine PySem.W.kla_codeExpr (wpAny_mono ((hbody _ _ s H (hr.deeper _)).run [] _ _ H Q J hq) (fun v s' hv => ?_) fun e s' he => he)
  obtain ⟨w', H', J', rv, q'⟩ := hv
  exact ⟨w', H', J'.os, J'.bare, J'.base, J'.hok, rv, q'⟩

/-! ### the keys, one call an item -/
def KeyCall (X : Cx) (T : Tbs) (A' : Around) (pins : List (Addr × Obj)) (σ : L2.St) (H0 : Hp) (f : Value) (xs : List V) (ks : List D) : Prop :=
  ∀ (i : Nat) (x : V) (d : D) (u : Value) (pn : List (Addr × Obj)) (H2 : Hp) (s2 : Shared), xs[i]? = some x → ks[i]? = some d → RelV x u → Inv X (pn ++ pins) σ H2 s2 → Kp T H0 H2 →
    wpAny (model X.prog X.w) A' (call f [u]) (fun v s3 => ∃ y H3, Inv X (pn ++ pins) σ H3 s3 ∧ RelV y v ∧ Kp T H2 H3 ∧ Dp X.K H3 y d) (fun _ _ => False) s2
theorem Inv.pin1 {b : Addr} {o : Obj} (I : Inv X pins σ H s) (F : FpOk X pins H b) (ho : s.heap.get? b = some o) (hd : ∀ v, o.data ≠ .cell v) : Inv X ((b, o) :: pins) σ H s := by
  obtain ⟨f0, f1, f2, f3, f4, f5⟩ := F
  refine I.pins_of fun p hp => ?_
  rcases List.mem_cons.mp hp with rfl | hp
  · exact ⟨ho, f0, f1, f2, hd⟩
  · exact I.pin p (List.mem_append_right _ hp)
theorem Inv.unpin1 {q : Addr × Obj} (I : Inv X (q :: pins) σ H s) : Inv X pins σ H s := I.pins_of fun p hp => I.pin p (List.mem_append_right _ (List.mem_cons_of_mem _ hp))
/-- of an object apart: where it stands does not matter -/
structure Apart (X : Cx) (pins : List (Addr × Obj)) (b : Addr) : Prop where
  nl : b ≠ X.env.locals
  nf : b ∉ X.fs
  sz : b ∈ X.ex ∨ X.s_0.heap.objs.size ≤ b
  nc : ∀ x c, X.env.cells.lookup x = some c → c ≠ b
  np : ∀ p ∈ X.pn ++ pins, p.1 ≠ b
theorem Apart.of {b : Addr} (F : FpOk X pins H b) : Apart X pins b := ⟨F.2.1, F.2.2.1, F.2.2.2.1, F.2.2.2.2.1, F.2.2.2.2.2⟩
theorem Apart.fp {b : Addr} (F : Apart X pins b) (h : H b = none) : FpOk X pins H b := ⟨h, F.nl, F.nf, F.sz, F.nc, F.np⟩
/-- two objects apart are changed, the one at a is a list from now on -/
theorem Inv.adopt {h' : Heap} {t' : Nat} {a b : Addr} {vs : List Value} {xs : List V} {n : Nat} (I : Inv X pins σ H s) (Fa : Apart X pins a) (Fb : Apart X pins b) (na : H a = none) (nb : H b = none)
    (k : ∀ c o, c ≠ a → c ≠ b → s.heap.get? c = some o → h'.get? c = some o) (ha : h'.get? a = some { cls := .type "list", data := .seq vs.toArray n }) (r : Vals xs vs) (hz : xs.length ≤ sizeLine) :
    Inv X pins σ (upd H a (.lst xs)) { s with heap := h', toks := t' } := by
  have trk : ∀ c o, H c = some o → c ≠ a ∧ c ≠ b := fun c o e => ⟨fun z => (by rw [z, na] at e; cases e), fun z => (by rw [z, nb] at e; cases e)⟩
  refine I.step (ch := [a, b]) (g' := s.gens) (d' := s.drawn) (fun c hc => ?_) (fun c o _ _ hc e _ => ?_) (fun c o _ _ hc e _ => ?_) (fun c o hc _ e => ?_) (fun c o hc e => ?_) (fun c ys e => ?_) (fun c o u e => ?_) (fun c ps e => ?_) (fun m hm => ?_) (fun c o e => ?_) I.bare
  · rcases List.mem_cons.mp hc with rfl | hc
    · exact ⟨Fa.sz, Fa.nl, Fa.nc, Fa.np⟩
    · rw [List.mem_singleton] at hc; subst hc; exact ⟨Fb.sz, Fb.nl, Fb.nc, Fb.np⟩
  · simp only [List.mem_cons, List.not_mem_nil, or_false, not_or] at hc; exact k c o hc.1 hc.2 e
  · simp only [List.mem_cons, List.not_mem_nil, or_false, not_or] at hc; exact ⟨o.slots, k c o hc.1 hc.2 e⟩
  · simp only [List.mem_cons, List.not_mem_nil, or_false, not_or] at hc; rw [upd_ne hc.1]; exact e
  · simp only [List.mem_cons, List.not_mem_nil, or_false, not_or] at hc; exact ⟨o, k c o hc.1 hc.2 e⟩
  · rw [upd_ne (trk c _ e).1]; exact e
  · rw [upd_ne (trk c _ e).1]; exact e
  · exact ⟨#[], by rw [upd_ne (trk c _ e).1, e]; simp⟩
  · obtain ⟨o, es, ep, ho, r⟩ := hm
    exact ⟨o, es, ep, k _ o (Ne.symm Fa.nl) (Ne.symm Fb.nl) ho, r⟩
  · by_cases q : c = a
    · subst q
      rw [upd_same] at e
      cases e
      exact ⟨hz, vs, n, r, ha⟩
    · rw [upd_ne q] at e
      refine (I.hok c o e).stay (fun z u hz2 hu => ?_) (fun z hz2 => ?_) (fun z ys hz2 => ?_)
      · rcases hz2 with rfl | hz2
        · exact k z u (trk z _ e).1 (trk z _ e).2 hu
        · exact k z u (trk z _ hz2).1 (trk z _ hz2).2 hu
      · rw [upd_ne (trk z _ hz2).1]; exact hz2
      · rw [upd_ne (trk z _ hz2).1]; exact hz2
theorem each_vals {R : V → Value → Prop} {xs : List V} {vs : List Value} (r : Vals xs vs) : ∀ {ks : List D}, ks.length = xs.length → PySem.W.EachIs (fun (v : Value) (b : V × D) => RelV b.1 v) vs (xs.zip ks) := by
  induction r with
  | nil => intro ks _; simp; exact .nil
  | cons h t ih =>
    intro ks hk
    cases ks with
    | nil => simp at hk
    | cons d ds =>
      rw [List.zip_cons_cons]
      exact .cons h (ih (by simpa using hk))
theorem vals_each {bs : List (V × D)} {out : List Value} (e : PySem.W.EachIs (fun (v : Value) (b : V × D) => RelV b.1 v) out bs) : Vals (bs.map (·.1)) out := by
  induction e with
  | nil => exact .nil
  | cons h _ ih => exact .cons h ih
theorem zip_snd {xs : List V} : ∀ {ks : List D}, ks.length = xs.length → (xs.zip ks).map Prod.snd = ks := fun {ks} h => List.map_snd_zip (by omega)
theorem dps_reads (I : Inv X pins σ H s) : ∀ {ys : List V} {us : List Value} {ds : List D}, Vals ys us → DpAll X.K H ys ds → PySem.W.EachIs (fun v k => ∃ as, Reads s.heap v k as) us ds
  | _, _, _, .nil, .nil => .nil
  | _, _, _, .cons rv rr, .cons hd hr => .cons (Dp.reads I _ _ _ hd rv) (dps_reads I rr hr)
theorem DpAll.snoc {K : PySem.W.Frag} {v : V} {d : D} (h : Dp K H v d) : ∀ {vs : List V} {ds : List D}, DpAll K H vs ds → DpAll K H (vs ++ [v]) (ds ++ [d])
  | _, _, .nil => .cons h .nil
  | _, _, .cons q r => .cons q (DpAll.snoc h r)
theorem DpAll.len {K : PySem.W.Frag} : ∀ {vs : List V} {ds : List D}, DpAll K H vs ds → vs.length = ds.length
  | _, _, .nil => rfl
  | _, _, .cons _ r => by simp [DpAll.len r]
/-- what sorted by keys gives -/
def sortedBy (xs : List V) (ks : List D) : List V := ((xs.zip ks).mergeSort (PySem.W.dataLe false Prod.snd)).map (·.1)
theorem sortedBy_len {xs : List V} {ks : List D} (h : ks.length = xs.length) : (sortedBy xs ks).length = xs.length := by
  unfold sortedBy
  rw [List.length_map, List.length_mergeSort, List.length_zip]
  omega
/-- behind the copy of the items: the keys, the sort, the items laid back -/
theorem keys_rest {T : Tbs} {A' : Around} {a kS : Addr} {e1 : Nat} {f : Value} {vs : List Value} {xs : List V} {ks : List D} {H0 : Hp} {E : Value → Shared → Prop} {P : PySem.Fin → Shared → Prop}
    (I : Inv X ((kS, seqObj "list" #[] 0) :: (a, seqObj "list" #[] e1) :: pins) σ H s) (Fa : Apart X pins a) (Fb : Apart X pins kS) (nab : kS ≠ a) (kp : Kp T H0 H) (rv : Vals xs vs) (hk : ks.length = xs.length) (hZ : xs.length ≤ sizeLine)
    (hal : PySem.W.AllAlike ks) (hsk : PySem.W.Sortable ks) (hu : ∀ d, d ∈ ks → A'.units + d.depth < cLine) (C : KeyCall X T A' pins σ H0 f xs ks)
    (fin : ∀ H2 s', Inv X pins σ (upd H2 a (.lst (sortedBy xs ks))) s' → Kp T H0 H2 → H2 a = none → P (.done (.ret .none)) s') :
    wpAny (model X.prog X.w) A' (ksk_rest a f false vs.toArray e1 (.ref kS)) P E s := by
  have hlv : vs.length = xs.length := rv.length.symm
  unfold ksk_rest
  refine wpAny_bind (wpAny_rule ?_)
  first
    | rw [List.forIn_toArray]
    | (rw [← Array.forIn_toList]; simp only [List.toList_toArray])
    | rw [← Array.forIn_toList]
  refine wpAny_bind (ksk_fold (fun i s' => ∃ H' ys kA n, Inv X ((kS, seqObj "list" (List.toArray kA) n) :: (a, seqObj "list" #[] e1) :: pins) σ H' s' ∧ Kp T H0 H' ∧ Vals ys kA ∧ DpAll X.K H' ys (ks.take i)) vs 0 s
    ⟨H, [], [], 0, I, kp, .nil, by rw [List.take_zero]; exact .nil⟩ ?step ?done)
  case step =>
    rintro j u s' hx ⟨H', ys, kA, n, I', kp', ry, hy⟩
    simp only [Nat.zero_add] at hy ⊢
    have hj : j < vs.length := (List.getElem?_eq_some_iff.mp hx).1
    obtain ⟨x, hxx⟩ : ∃ x, xs[j]? = some x := ⟨_, List.getElem?_eq_getElem (by omega)⟩
    obtain ⟨d, hd⟩ : ∃ d, ks[j]? = some d := ⟨_, List.getElem?_eq_getElem (by omega)⟩
    obtain ⟨u', hu', ru⟩ := rv.get hxx
    rw [hx] at hu'
    cases hu'
    refine wpAny_bind (wpAny_attempt (wpAny_mono (C j x d u [(kS, seqObj "list" (List.toArray kA) n), (a, seqObj "list" #[] e1)] H' s' hxx hd ru I' kp') (fun v s'' he => ?_) fun _ _ hF => hF.elim))
    obtain ⟨y, H3, I3, ryv, kp3, dy⟩ := he
    try dsimp only
    have I3' : Inv X ((kS, seqObj "list" (List.toArray kA) n) :: (a, seqObj "list" #[] e1) :: pins) σ H3 s'' := I3
    obtain ⟨nk, hnk, _, _, _⟩ := I3'.pin _ (List.mem_append_right _ List.mem_cons_self)
    have hz : kA.length ≤ vs.length := by
      have h1 := ry.length
      have h2 := DpAll.len hy
      rw [List.length_take] at h2
      omega
    have zs : kA.length ≤ sizeLine := by omega
    obtain ⟨c2, hc2⟩ : ∃ c2, (s''.heap.update kS (Obj.mapSeq (·.push v))).get? kS = some (seqObj "list" ((List.toArray kA).push v) c2) := ⟨_, get?_update_seq nk (·.push v)⟩
    have sb := Heap.SameBut.update s''.heap kS (Obj.mapSeq (·.push v))
    refine wpAny_bind (listUpdate_at nk rfl ?_ (by rw [List.size_toArray]; exact zs) (by rw [Array.size_push, List.size_toArray]; omega))
    have Fb' : Apart X ((a, seqObj "list" #[] e1) :: pins) kS := ⟨Fb.nl, Fb.nf, Fb.sz, Fb.nc, fun p hp => by
      rcases List.mem_append.mp hp with h | h
      · exact Fb.np p (List.mem_append_left _ h)
      · rcases List.mem_cons.mp h with rfl | h
        · exact nab.symm
        · exact Fb.np p (List.mem_append_right _ h)⟩
    have I4 : Inv X ((a, seqObj "list" #[] e1) :: pins) σ H3 { s'' with heap := s''.heap.update kS (Obj.mapSeq (·.push v)) } :=
      (Inv.unpin1 I3').turned (t' := s''.toks) (fun b o hb e => (sb.2 b hb).trans e) hnk Fb'.nl Fb'.sz Fb'.nc Fb'.np
    have epush : (List.toArray kA).push v = List.toArray (kA ++ [v]) := by simp
    have ek : ks.take (j + 1) = ks.take j ++ [d] := take_succ' hd
    refine wpAny_pure ⟨rfl, H3, ys ++ [y], kA ++ [v], c2, ?_, kp'.trans kp3, ?_, ?_⟩
    · rw [epush] at hc2
      exact Inv.pin1 I4 (Fb'.fp hnk) hc2 (fun v z => by cases z)
    · exact ry.append (.cons ryv .nil)
    · rw [ek]
      exact DpAll.snoc dy (DpAll.ext kp3.hh hy)
  case done =>
    rintro s' ⟨H', ys, kA, n, I', kp', ry, hy⟩
    have e3 : ks.take (0 + vs.length) = ks := List.take_of_length_le (by omega)
    rw [e3] at hy
    obtain ⟨nk, hnk, _, _, _⟩ := I'.pin _ (List.mem_append_right _ List.mem_cons_self)
    obtain ⟨na, hna, _, _, _⟩ := I'.pin _ (List.mem_append_right _ (List.mem_cons_of_mem _ List.mem_cons_self))
    have hk' := dps_reads I' ry hy
    have hsz : kA.toArray.size = vs.length := by
      rw [List.size_toArray, ← ry.length, DpAll.len hy]; omega
    try dsimp only
    refine wpAny_bind (listItems_at nk rfl ?_)
    obtain ⟨h₁, g1, g2⟩ := restrict s'.heap fun b => decide (b ≠ kS)
    have kb : PySem.W.KeepsBut a h₁ s'.heap := fun b o _ e => by
      by_cases q : b = kS
      · subst q; rw [g2 b (by simp)] at e; cases e
      · rw [g1 b (by simpa using q)] at e; exact e
    have hkS : h₁.get? kS = none := g2 kS (by simp)
    refine PySem.W.keyH_end (κ := PySem.W.dataKind s'.heap ks) (h₁ := h₁) (vs := vs) (b := false) kb hkS nk na nab (PySem.W.SortsAt.data (s := s') (by rw [List.toList_toArray]; exact hk') hal hsk hu) hsz (by omega) fun h3 tk3 c k3 n3 => ?_
    have ko : PySem.W.KeyedOut false ks vs (PySem.W.sortVals (PySem.W.dataKind s'.heap ks) false kA.toArray.toList vs) := ⟨s'.heap, _, hal, rfl, by rw [List.toList_toArray]; exact hk'⟩
    have ez : (xs.zip ks).map Prod.snd = ks := zip_snd hk
    rw [← ez] at ko
    have eo := PySem.W.keyedOut_each (R := fun (v : Value) (b : V × D) => RelV b.1 v) (bs := xs.zip ks) Prod.snd ko (each_vals (R := fun _ _ => True) rv hk)
    rw [ez] at eo
    have ro : Vals (sortedBy xs ks) _ := vals_each eo
    refine fin _ _ (Inv.adopt (t' := tk3) (h' := h3) (Inv.unpin1 (Inv.unpin1 I')) Fa Fb hna hnk (fun b o h1 h2 e => k3 b o h1 (by rw [g1 b (by simpa using h2)]; exact e)) n3 ro (by rw [sortedBy_len hk]; exact hZ)) kp' hna
/-- what sorted walks: a value whose items are xs -/
def CollP (X : Cx) (pins : List (Addr × Obj)) (H0 : Hp) (u : Value) (xs : List V) : Prop :=
  ∀ (σ : L2.St) (H : Hp) (s : Shared) (A' : Around) (Q : List Value → Shared → Prop) (E : Value → Shared → Prop), Inv X pins σ H s → ExN H0 H → A'.handled = none →
    (∀ vs h' tk, Vals xs vs → (∀ b o, s.heap.get? b = some o → h'.get? b = some o) → Q vs { s with heap := h', toks := tk }) → wpAny (model X.prog X.w) A' (collect u) Q E s
theorem sorted_keyI {T : Tbs} {f : Addr} {u : Value} {xs : List V} {ks : List D} {H0 : Hp} {E : Value → Shared → Prop} {Q : VK} (hd : X.A.handled = none)
    (I : Inv X pins σ H s) (kp : Kp T H0 H) (cp : CollP X pins H0 u xs) (hk : ks.length = xs.length) (hZ : xs.length ≤ sizeLine)
    (hal : PySem.W.AllAlike ks) (hsk : PySem.W.Sortable ks) (hu : ∀ d, d ∈ ks → X.A.in1.in1.units + d.depth < cLine) (C : KeyCall X T X.A.in1.in1 pins σ H0 (.ref f) xs ks)
    (fin : ∀ (a : Addr) (H2 : Hp), Kp T H0 H2 → H2 a = none → H0 a = none → Q (.ref a) (upd H2 a (.lst (sortedBy xs ks)))) :
    wpAny (model X.prog X.w) X.A (call (.builtin "sorted") [u] [(Str.ofString "key", .ref f)]) (EP X pins σ Q) E s := by
  refine call_function_entry_kw kind_sorted plain_sorted entry_sorted (ksk_s1 _ _) ?_
  unfold Builtin.«sorted»
  refine wpAny_bind (m := checkCount "sorted" 1 1 _) (wpAny_pure ?_)
  refine wpAny_bind (cp σ H s X.A.in1 _ _ I kp.hh hd fun vs h' tk rv kh => ?_)
  have hlv : vs.length = xs.length := rv.length.symm
  have I1 : Inv X pins σ H { s with heap := h', toks := tk } := I.kept kh
  refine wpAny_bind (wpAny_newList ?_ (by omega))
  try dsimp only
  have ha : (h'.push (seqObj "list" vs.toArray 0)).get? h'.objs.size = some (seqObj "list" vs.toArray 0) := Heap.get?_push_size _ rfl
  have na : H h'.objs.size = none := I1.hok.fresh (Nat.le_refl _)
  have Fa : Apart X pins h'.objs.size := Apart.of (I1.fpOk (Nat.le_refl _) na)
  have I2 : Inv X pins σ H { s with heap := h'.push (seqObj "list" vs.toArray 0), toks := tk } := I1.kept (t' := tk) fun b o e => Heap.get?_push_of_some _ e
  refine wpAny_bind (wpAny_holding (wpAny_call_entry_kw slot_list_sort ⟨_, ha, rfl⟩ entry_list_sort ?body (ksk_l1 _ _)))
  case body =>
    show wpAny (model X.prog X.w) X.A.in1.in1 (Builtin.«list.sort» ⟨[.ref h'.objs.size], [(Str.ofString "key", .ref f)]⟩) _ _ _
    rw [ksk_t1]
    obtain ⟨e1, ho1⟩ : ∃ e1, ((h'.push (seqObj "list" vs.toArray 0)).update h'.objs.size (Obj.mapSeq fun _ => (#[] : Array Value))).get? h'.objs.size = some (seqObj "list" #[] e1) := ⟨_, get?_update_seq ha fun _ => #[]⟩
    have sb := Heap.SameBut.update (h'.push (seqObj "list" vs.toArray 0)) h'.objs.size (Obj.mapSeq fun _ => (#[] : Array Value))
    have I3 : Inv X pins σ H { s with heap := (h'.push (seqObj "list" vs.toArray 0)).update h'.objs.size (Obj.mapSeq fun _ => (#[] : Array Value)), toks := tk } :=
      I2.turned (t' := tk) (fun b o hb e => (sb.2 b hb).trans e) na Fa.nl Fa.sz Fa.nc Fa.np
    unfold ksk_tree
    refine wpAny_bind (listItems_at ha rfl ?_)
    refine wpAny_bind (listUpdate_at ha rfl ?_ (by rw [List.size_toArray]; omega) (Nat.zero_le _))
    refine wpAny_bind (seqEpoch_at ho1 rfl ?_)
    refine wpAny_bind (wpAny_newTuple ?_ (by show vs.length ≤ _; omega))
    refine wpAny_bind (wpAny_newList ?_ (Nat.zero_le _))
    refine wpAny_holding ?_
    try dsimp only
    have I4 : Inv X pins σ H { s with heap := ((h'.push (seqObj "list" vs.toArray 0)).update h'.objs.size (Obj.mapSeq fun _ => (#[] : Array Value))).push (seqObj "tuple" vs.toArray 0), toks := tk } := I3.kept (t' := tk) fun b o e => Heap.get?_push_of_some _ e
    have nk : H (((h'.push (seqObj "list" vs.toArray 0)).update h'.objs.size (Obj.mapSeq fun _ => (#[] : Array Value))).push (seqObj "tuple" vs.toArray 0)).objs.size = none := I4.hok.fresh (Nat.le_refl _)
    have Fk : Apart X pins (((h'.push (seqObj "list" vs.toArray 0)).update h'.objs.size (Obj.mapSeq fun _ => (#[] : Array Value))).push (seqObj "tuple" vs.toArray 0)).objs.size := Apart.of (I4.fpOk (Nat.le_refl _) nk)
    have I5 : Inv X pins σ H { s with heap := (((h'.push (seqObj "list" vs.toArray 0)).update h'.objs.size (Obj.mapSeq fun _ => (#[] : Array Value))).push (seqObj "tuple" vs.toArray 0)).push (seqObj "list" #[] 0), toks := tk } := I4.kept (t' := tk) fun b o e => Heap.get?_push_of_some _ e
    have ho2 := Heap.get?_push_of_some (seqObj "list" (#[] : Array Value) 0) (Heap.get?_push_of_some (seqObj "tuple" vs.toArray 0) ho1)
    have nab : (((h'.push (seqObj "list" vs.toArray 0)).update h'.objs.size (Obj.mapSeq fun _ => (#[] : Array Value))).push (seqObj "tuple" vs.toArray 0)).objs.size ≠ h'.objs.size := Nat.ne_of_gt (Heap.lt_size (Heap.get?_push_of_some (seqObj "tuple" vs.toArray 0) ho1))
    have I6 := Inv.pin1 I5 (Fa.fp na) ho2 (fun v z => by cases z)
    have Fk' : Apart X ((h'.objs.size, seqObj "list" #[] e1) :: pins) (((h'.push (seqObj "list" vs.toArray 0)).update h'.objs.size (Obj.mapSeq fun _ => (#[] : Array Value))).push (seqObj "tuple" vs.toArray 0)).objs.size := ⟨Fk.nl, Fk.nf, Fk.sz, Fk.nc, fun p hp => by
      rcases List.mem_append.mp hp with h | h
      · exact Fk.np p (List.mem_append_left _ h)
      · rcases List.mem_cons.mp h with rfl | h
        · exact nab.symm
        · exact Fk.np p (List.mem_append_right _ h)⟩
    have I7 := Inv.pin1 I6 (Fk'.fp nk) (Heap.get?_push_size _ rfl) (fun v z => by cases z)
    refine keys_rest I7 Fa Fk nab kp rv hk hZ hal hsk hu C fun H2 s' J kp2 n2 => ?_
    refine ⟨_, rfl, wpAny_pure ⟨_, rfl, ?_⟩⟩
    exact ⟨.ref h'.objs.size, _, J, rfl, fin _ H2 kp2 n2 (kp.nn _ na)⟩
end
end XL
/-! XL, part g: the rule for sorted(.., key=lambda ..), its reading by data. -/
namespace XL
open PySem PySem.W PySem.Spec PyProof.Rows L2 LamX NdefX
section
variable {X : Cx} {pins : List (Addr × Obj)} {σ : L2.St} {H : Hp} {s : Shared}
/-- the lambda is made: it stands apart, in a pin -/
theorem lam_new {T : Tbs} {c P : Addr} {params : Arguments} {body : Expr} {scope : Scope} {pos : Pos} {E : Value → Shared → Prop} {Q : Value → Shared → Prop} (I : Inv X pins σ H s) (TB : TabB X.base X.mg c P) (hcode : X.env.code = .ref c)
    (hm : (P, X.env.qual ++ "<lambda>") ∈ T) (hu : ∀ p ∈ T, p.1 = P → p.2 = X.env.qual ++ "<lambda>") (hT : Tabs T H) (hdef : defaultsOf params X.env = ([], [])) (hfree : ∀ y ∈ scope.names, y.2 = .free → ∃ c, X.env.cells.lookup y.1 = some c)
    (h : ∀ (f c' : Addr) (pm ctv : Value) (H1 : Hp) (s' : Shared), Inv X ((f, kla_obj "<lambda>" (X.env.qual ++ "<lambda>") params body scope (cloFrom X.env.cells scope.names []) pm c' ctv) :: pins) σ H1 s' → Kp T H H1 → Tabs T H1 →
      H1 c' = some (CodeO c' (X.env.qual ++ "<lambda>")) → Q (.ref f) s') :
    wpAny (model X.prog X.w) X.A (eval (.Lambda params body scope pos) X.env) Q E s := by
  obtain ⟨ps, hP, ht, hall⟩ := hT _ hm
  refine kla_eval hdef ?_
  have bP : s.heap.BuiltinsAt X.mg P := TB.bm.keeps I.bk
  have hP' : s.heap.get? P = some { cls := .none, data := .fields ps } := I.hok P _ hP
  have isF : ∀ (pm cv ctv : Value) (v : Option Value), ({ cls := .type "function", data := .func (kla_fn "<lambda>" (X.env.qual ++ "<lambda>") params body scope (cloFrom X.env.cells scope.names []) pm cv ctv) } : Obj).data ≠ .cell v := fun _ _ _ v z => by cases z
  cases hc : codeAmong pos ps.toList with
  | some cv =>
    obtain ⟨c', e, hco⟩ := hall pos cv hc
    subst e
    refine kla_makeFunctionHit (mg := X.mg) (c := c) (P := P) (ps := ps) (closure_ok hfree) I.ok.glob (I.mod.glob.keeps I.bk) hcode (TB.code.keeps I.bk) hP' ht hc bP fun ctv h' tk hx hsz => ?_
    have I1 : Inv X pins σ H { s with heap := h', toks := tk } := I.kept hx
    have nf : H h'.objs.size = none := I1.hok.fresh (Nat.le_refl _)
    have I2 : Inv X pins σ H { s with heap := h'.push (kla_obj "<lambda>" (X.env.qual ++ "<lambda>") params body scope (cloFrom X.env.cells scope.names []) ((X.mg "__name__").getD .none) c' ctv), toks := tk } := I1.kept (t' := tk) fun b o e => Heap.get?_push_of_some _ e
    exact h _ c' _ ctv H _ (Inv.pin1 I2 (I1.fpOk (Nat.le_refl _) nf) (Heap.get?_push_size _ rfl) (isF _ _ _)) (Kp.refl T H) hT hco
  | none =>
    refine kla_makeFunction (mg := X.mg) (c := c) (P := P) (ps := ps) (closure_ok hfree) I.ok.glob (I.mod.glob.keeps I.bk) hcode (TB.code.keeps I.bk) hP' ht hc TB.gP bP fun c' ctv h' tk hx hge hlt hrec htb => ?_
    obtain ⟨c2, oc, fs, tq, e2, hoc, hd, hv⟩ := hrec
    cases e2
    have hsz : s.heap.objs.size ≤ h'.objs.size := Nat.le_trans hge (Nat.le_of_lt hlt)
    have nC : H c' = none := I.hok.fresh hge
    have I1 : Inv X pins σ (upd (upd H P (.tbl (ps ++ #[rawInt pos.line, rawInt pos.col, .ref c']))) c' (CodeO c' (X.env.qual ++ "<lambda>"))) { s with heap := h', toks := tk } :=
      inv_table (t' := tk) I hP (fun b o hb e => hx b o hb e) htb hge ⟨oc, fs, tq, hoc, hd, hv⟩
    have hE : ExtN H (upd (upd H P (.tbl (ps ++ #[rawInt pos.line, rawInt pos.col, .ref c']))) c' (CodeO c' (X.env.qual ++ "<lambda>"))) := fun b o e n => by
      rw [upd_ne (ne_of_none e nC), upd_ne (fun z => n ps (Option.some.inj (e.symm.trans (by rw [z]; exact hP))))]
      exact e
    have hN : ∀ b, upd (upd H P (.tbl (ps ++ #[rawInt pos.line, rawInt pos.col, .ref c']))) c' (CodeO c' (X.env.qual ++ "<lambda>")) b = none → H b = none := fun b e => by
      by_cases q1 : b = c'
      · rw [q1]; exact nC
      · rw [upd_ne q1] at e
        by_cases q2 : b = P
        · rw [q2, upd_same] at e; cases e
        · rw [upd_ne q2] at e; exact e
    have eL : (ps ++ #[rawInt pos.line, rawInt pos.col, .ref c']).toList = ps.toList ++ [rawInt pos.line, rawInt pos.col, .ref c'] := by simp
    have hT1 : Tabs T (upd (upd H P (.tbl (ps ++ #[rawInt pos.line, rawInt pos.col, .ref c']))) c' (CodeO c' (X.env.qual ++ "<lambda>"))) := fun p hp => by
      by_cases hb : p.1 = P
      · rw [hu p hp hb, hb]
        refine ⟨_, by rw [upd_ne (ne_of_none hP nC), upd_same], by rw [eL]; exact PySem.TriplesOk_snoc _ _ _ _ ht, fun p' cv hcv => ?_⟩
        rw [eL] at hcv
        rcases among_app _ ht hcv with z | z
        · obtain ⟨c0, e1, e2⟩ := hall p' cv z
          exact ⟨c0, e1, hE _ _ e2 codeO_ne⟩
        · exact ⟨c', z, upd_same⟩
      · obtain ⟨ps', a1, a2, a3⟩ := hT p hp
        refine ⟨ps', by rw [upd_ne (ne_of_none a1 nC), upd_ne hb]; exact a1, a2, fun p' cv hcv => ?_⟩
        obtain ⟨c0, e1, e2⟩ := a3 p' cv hcv
        exact ⟨c0, e1, hE _ _ e2 codeO_ne⟩
    have nf := I1.hok.fresh (Nat.le_refl h'.objs.size)
    have I2 : Inv X pins σ _ { s with heap := h'.push (kla_obj "<lambda>" (X.env.qual ++ "<lambda>") params body scope (cloFrom X.env.cells scope.names []) ((X.mg "__name__").getD .none) c' ctv), toks := tk } := I1.kept (t' := tk) fun b o e => Heap.get?_push_of_some _ e
    exact h _ c' _ ctv _ _ (Inv.pin1 I2 (I1.fpOk (Nat.le_refl _) nf) (Heap.get?_push_size _ rfl) (isF _ _ _)) ⟨hE, hN, fun _ => hT1⟩ hT1 upd_same
end

/-! ### what is sorted -/
/-- the items that sorted walks -/
abbrev TSrc := L2.St → Hp → (List V → Hp → Prop) → Prop
def PSrc (X : Cx) (e : Expr) (src : TSrc) : Prop := ∀ (pins : List (Addr × Obj)) (s : Shared) (σ : L2.St) (H : Hp) (R : List V → Hp → Prop), Inv X pins σ H s → src σ H R →
  wpAny (model X.prog X.w) X.A (eval e X.env) (fun u s' => ∃ pn xs H', Inv X (pn ++ pins) σ H' s' ∧ CollP X (pn ++ pins) H' u xs ∧ R xs H') X.xe s
def srcL (K : PySem.W.Frag) (te : TE) : TSrc := fun σ H R => te σ H fun x H1 => ∃ l xs, x = .ref l ∧ SqL K H1 l xs ∧ R xs H1
theorem ps_list {X : Cx} {e : Expr} {te : TE} (he : PE X e te) : PSrc X e (srcL X.K te) := by
  intro pins s σ H R I h
  refine thn (he.run pins s σ H _ I h) fun u s1 ⟨x, H1, I1, r1, l, xs, ex, hs, q⟩ => ?_
  subst ex
  obtain rfl : u = Value.ref l := r1
  refine ⟨[], xs, H1, I1, fun σ2 H2 s2 A' Q E I2 ex2 hh k => ?_, q⟩
  obtain ⟨its, rv, pl, hz⟩ := I2.list (ex2.sql hs)
  refine collect_list (vs := its) pl.isList (k its _ _ rv fun b o e => ?_) (by rw [← rv.length]; exact hz)
  have hb : b ≠ s2.heap.objs.size := Nat.ne_of_lt (Heap.lt_size e)
  exact (Heap.get?_update_other _ _ (Ne.symm hb)).trans (Heap.get?_push_of_some _ e)
def srcR (ta : TE) : TSrc := fun σ H R => ta σ H fun x H1 => ∃ n : Nat, x = .int (n : Int) ∧ n ≤ 100000 ∧ R ((List.range n).map fun i : Nat => V.int (i : Int)) H1
theorem ps_rng {X : Cx} {a : Expr} {ta : TE} {p pos : Pos} (hg : Gl X "range") (hm : X.mg "range" = none) (ha : PE X a ta) (na : starEach [a] X.env = (false, eval a X.env) :: starEach [] X.env := by rfl) : PSrc X (.Call (.Name "range" p) [a] [] pos) (srcR ta) := by
  intro pins s σ H R I h
  refine Call_ (ld_blt I hg hm boot_range (PyProof.Rows.callWith_type1 (one_arg ha I h (fun v s2 x H2 I2 r q => ?_) na) na))
  obtain ⟨n, rfl, hn, q⟩ := q
  obtain ⟨t, rfl⟩ := r
  refine call_range_1 ?_
  have nf := I2.hok.fresh (Nat.le_refl s2.heap.objs.size)
  refine ⟨[(s2.heap.objs.size, _)], _, H2, Inv.pin1 (I2.kept fun b u e => Heap.get?_push_of_some _ e) (I2.fpOk (Nat.le_refl _) nf) (Heap.get?_push_size _ rfl) (fun v z => by cases z), fun σ3 H3 s3 A' Q E I3 ex3 hh k => ?_, q⟩
  have hr := (I3.pin _ (List.mem_append_right _ (List.mem_append_left _ (List.mem_singleton.mpr rfl)))).1
  have hR : IsRange s3.heap s2.heap.objs.size 0 (n : Int) 1 _ _ _ := hr
  refine collect_range (n := n) hh hR (small_one (by omega) (by omega) (by omega) (by omega)) (by have := rangeSize_nat 0 (n : Int); simpa using this) (by omega) fun h' tk acc kh hi => ?_
  refine k acc.toList h' tk ?_ kh
  have hv := vals_rg (a := 0) (b := (n : Int)) (acc := acc) (by simpa using hi)
  have e : rgV 0 (n : Int) = (List.range n).map fun i : Nat => V.int (i : Int) := by
    unfold rgV
    simp
  rw [← e]
  exact hv
/-! ### the rule -/
def tSortK (T : Tbs) (K : PySem.W.Frag) (src : TSrc) (N : List Str) (js : List Nat) (tb : TE) : TE := fun σ H Q => src σ H fun xs H1 => Tabs T H1 ∧ xs.length ≤ sizeLine ∧ ∃ ks : List D, ks.length = xs.length ∧
  AllAlike ks ∧ Sortable ks ∧ (∀ d ∈ ks, d.depth ≤ 60) ∧
  (∀ (i : Nat) (x : V) (d : D), xs[i]? = some x → ks[i]? = some d → ∀ H2, Kp T H1 H2 → tb (startF N [x] (js.map (slotAt σ))) H2 fun v H3 => Kp T H2 H3 ∧ Dp K H3 v d) ∧
  ∀ (p : Addr) (H3 : Hp), Kp T H1 H3 → H3 p = none → H1 p = none → Q (.ref p) (upd H3 p (.lst (sortedBy xs ks)))
theorem in1_units (A : Around) : A.in1.units = A.units + 1 := rfl
theorem pe_sortk {X : Cx} {T : Tbs} {c P : Addr} {k : Nat} {e : Expr} {src : TSrc} {params : Arguments} {body : Expr} {scope : Scope} {lpos kpos pos p : Pos} {N : List Str} {x : Str} {fr : List Str} {js : List Nat} {tb : TE}
    (hg : Gl X "sorted") (hm : X.mg "sorted" = none) (hv : bootBuiltins "sorted" = some (.builtin "sorted")) (he : PSrc X e src) (TB : TabB X.base X.mg c P) (hcode : X.env.code = .ref c)
    (hmT : (P, X.env.qual ++ "<lambda>") ∈ T) (hu : ∀ p ∈ T, p.1 = P → p.2 = X.env.qual ++ "<lambda>") (hr : Room (k + 2) X.A) (hdef : defaultsOf params X.env = ([], []))
    (S : NScope N [x] fr scope) (hfree : ∀ y ∈ scope.names, y.2 = .free → X.env.scope.names.lookup y.1 = some .cell ∨ X.env.scope.names.lookup y.1 = some .free) (hfr : ∀ y ∈ fr, (y, NameKind.free) ∈ scope.names) (hjs : js.map (fun j => X.N[j]?) = fr.map some)
    (hbind : ∀ (q : Str) (cl : List (Str × Addr)) (pm cv ctv u : Value), bindArgs (kla_fn "<lambda>" q params body scope cl pm cv ctv) ⟨[u], []⟩ = pure [(x, u)])
    (hbody : ∀ (A : Around) (outer : List Env) (s : Shared) (H : Hp) (f c' : Addr), Room k (A.deeper (envF ⟨"<lambda>", X.env.qual ++ "<lambda>", params, [], scope, cloFrom X.env.cells scope.names [], c'⟩ f s.heap.objs.size)) →
      PE (ncx C8.CX0 X.prog X.w X.K X.mg X.base N ⟨"<lambda>", X.env.qual ++ "<lambda>", params, [], scope, cloFrom X.env.cells scope.names [], c'⟩ f A outer s H C8.E0) body tb)
    (hs : backTo pos (starEach [e] X.env) = (false, eval e X.env) :: backTo pos (starEach [] X.env) := by rfl) (hs' : starEach [e] X.env = (false, eval e X.env) :: starEach [] X.env := by rfl) (hpl : (backTo pos (starEach [e] X.env)).any (·.1) = false := by rfl) :
    PE X (.Call (.Name "sorted" p) [e] [⟨some "key", .Lambda params body scope lpos, kpos⟩] pos) (tSortK T X.K src N js tb) := by
  refine ⟨fun pins s σ H Q I h => ?_⟩
  have hfr2 : ∀ y ∈ scope.names, y.2 = .free → ∃ c, X.env.cells.lookup y.1 = some c := fun y hy e => (hfree y hy e).elim (fun z => I.ok.has _ (.inl z)) fun z => I.ok.has _ (.inr z)
  refine wpAny_Call_Name_kw (ld_blt I hg hm hv ?_ (by decide) (by decide))
  refine PyProof.Rows.callWith_kw ?_ hs hpl rfl rfl
  rw [hs']
  show wpAny _ _ (spliced ((false, eval e X.env) :: backTo pos (starEach [] X.env))) _ _ s
  refine Calls.spliced_cons (thn (he pins s σ H _ I h) fun u s1 ⟨pn, xs, H1, I1, cp, hT, hz, ks, hk, hal, hsk, hdp, turn, fin⟩ => Calls.spliced_nil ?_)
  show wpAny _ _ (evalAll [(do let v ← eval (.Lambda params body scope lpos) X.env; standAt pos; pure v)]) _ _ s1
  refine wpAny_evalAll_cons (wpAny_bind (lam_new I1 TB hcode hmT hu hT hdef hfr2 fun f c' pm ctv H2 s2 I2 kp2 hT2 hc2 => wpAny_bind (wpAny_standAt (wpAny_pure (wpAny_evalAll_nil ?_)))))
  show wpAny (model X.prog X.w) X.A (call (.builtin "sorted") [u] [(Str.ofString "key", .ref f)]) _ _ s2
  have hrI : Room (k + 1) X.A.in1.in1 := ⟨hr.hd, by have := hr.dp; show X.A.depth + 3 * (k + 1) + 5 < _; omega, by have := hr.un; show X.A.units + 1 + 1 + 16 * (k + 1) + 200 < _; omega⟩
  refine wpAny_mono (sorted_keyI (T := T) (H0 := H2) (E := X.xe) (Q := Q) (f := f) (xs := xs) (ks := ks) (hr.hd) I2 (Kp.refl T H2) (fun σ3 H3 s3 A' Q' E' I3 ex3 hh k3 => ?_) hk hz hal hsk (fun d hd => ?_) (fun i x' d u' pn' H3 s3 hx hd ru I3 kp3 => ?_) fun a H3 kp3 n3 n1 => fin a H3 (kp2.trans kp3) n3 (kp2.nn a n1)) (fun v s3 hq => ?_) fun _ _ e => e
  · exact cp σ3 H3 s3 A' Q' E' (Inv.unpin1 I3) (kp2.hh.trans ex3) hh k3
  · have h1 := hdp d hd
    have h2 := hr.un
    show X.A.units + 1 + 1 + d.depth < _
    omega
  · -- one key
    have hf := (I3.pin _ (List.mem_append_right _ (List.mem_append_right _ List.mem_cons_self))).1
    have hc3 : H3 c' = some (CodeO c' (X.env.qual ++ "<lambda>")) := kp3.hh _ _ hc2 codeO_ne
    have caps := Caps.made (fr := fr) (js := js) I3.ok hfree hfr hjs
    have e0 := I3.env0.in1.in1
    refine wpAny_call (codeAny_mono (lam_call (vs := [x']) (us := [u']) I3 e0 hrI S hf hc3 (cells_of I3 caps) (hbind _ _ _ _ _ _) (.cons ru .nil) rfl (fun A outer s H hr' => hbody A outer s H f c' hr') (turn i x' d hx hd H3 (kp2.trans kp3))) fun r s4 hq => ?_)
    cases r with
    | error e => exact (show False from hq).elim
    | ok fl =>
      cases fl with
      | ret v =>
        obtain ⟨y, H4, I4, ry, kp4, dy⟩ := I3.after hq
        exact ⟨y, H4, I4, ry, kp4, dy⟩
      | next => exact False.elim hq
      | brk => exact False.elim hq
      | cont => exact False.elim hq
  · obtain ⟨y, H4, I4, ry, q⟩ := hq
    exact ⟨y, H4, (Inv.pins_of I4 fun p hp => I4.pin p (List.mem_append_right _ (List.mem_cons_of_mem _ (List.mem_append_right _ hp)))), ry, q⟩
end XL
/-! XL, part h: defs by promises, calls that may raise, sorting by data. -/
namespace XL
open PySem L2
/-! ### a def that keeps its promise -/
structure FO (P : Program) (w : World) (K : PySem.W.Frag) (mg : Str → Option Value) (base : Heap) (k : Nat) (a : Addr) (ps : List Str) (sp : Sp) : Prop where
  ex : ∃ fd, FnOk P w K mg base (L2.CX P w) k a fd ps sp ∧ Binds K fd ps []
  kp : PySem.W.keepIn K (.ref a) = true
section
variable {P : Program} {w : World} {K : PySem.W.Frag} {mg : Str → Option Value} {base : Heap} {x qual : Str} {params : Arguments} {body : List Stmt} {scope : Scope} {N ps : List Str} {k : Nat} {p : Str × Option Str} {sp : Sp}
theorem FO.mk' (F : ∃ fd, FunD K x qual params body scope [] [] (He.fAd K p) fd) (S : FnScope N ps scope)
    (hb : ∀ (kV doc pm : Value) (an : Option Addr) (cdv ct : Value) (us : List Value), us.length = ps.length → bindArgs (PySem.W.fnOf x qual params body scope .none kV doc pm an cdv ct) ⟨us, []⟩ = pure (ps.zip us))
    (len : ∀ vs H Q E, sp vs H Q E → vs.length = ps.length)
    (hbody : ∀ (A : Around) (outer : List Env) (s : Shared) (H : Hp) (vs : List V) (Q : VK) (E : XK), Room k (A.deeper (PyProof.Rows.envOfC qual scope s.heap.objs.size (He.fAd K p) (.ref (He.codeOf K p)))) → sp vs H Q E →
      ∃ t, PSs (cxOf (L2.CX P w) P w K mg base N qual scope (He.fAd K p) (.ref (He.codeOf K p)) A outer s H E) body t ∧ t { nx := fun _ H' => Q .non H', rt := Q } (L2.start N vs) H) : FO P w K mg base (k + 1) (He.fAd K p) ps sp := by
  obtain ⟨fd, F⟩ := F
  refine ⟨⟨fd, ?_, F.bindsN hb⟩, F.kp⟩
  obtain ⟨oc, od, dV, kV, doc, pm, an, cdv, ct, osl, rfl, lk, hcd, _, _⟩ := F.ex
  obtain ⟨c, rfl⟩ := He.codeIn_ref hcd
  obtain rfl := He.codeOf_eq lk rfl
  exact fn_of lk hcd S len fun A outer s H vs Q E hr hsp => hbody A outer s H vs Q E hr hsp
/-- what a def's text does: a reading of it at every entry -/
def BodyOk (P : Program) (w : World) (K : PySem.W.Frag) (mg : Str → Option Value) (base : Heap) (k : Nat) (N : List Str) (qual : Str) (scope : Scope) (p : Str × Option Str) (body : List Stmt) (t : WX → TS) : Prop :=
  ∀ (A : Around) (outer : List Env) (s : Shared) (H : Hp) (E : XK), Room k (A.deeper (PyProof.Rows.envOfC qual scope s.heap.objs.size (He.fAd K p) (.ref (He.codeOf K p)))) →
    PSs (cxOf (L2.CX P w) P w K mg base N qual scope (He.fAd K p) (.ref (He.codeOf K p)) A outer s H E) body (t fun c d _ H' => E c d H')
/-- what that reading comes to -/
def Walks (T : Tbs) (K : PySem.W.Frag) (N : List Str) (t : WX → TS) (R : List D → Res → Prop) : Prop :=
  ∀ (W : WX) (ds : List D) (r : Res), R ds r → ∃ o, XS T K (He.ga K) W (t W) (st0 N ds) o ∧ OutRes o r
theorem FO.ofX {T : Tbs} {R : List D → Res → Prop} {t : WX → TS} (F : ∃ fd, FunD K x qual params body scope [] [] (He.fAd K p) fd) (S : FnScope N ps scope)
    (hb : ∀ (kV doc pm : Value) (an : Option Addr) (cdv ct : Value) (us : List Value), us.length = ps.length → bindArgs (PySem.W.fnOf x qual params body scope .none kV doc pm an cdv ct) ⟨us, []⟩ = pure (ps.zip us))
    (hR : ∀ ds r, R ds r → ds.length = ps.length) (hbody : BodyOk P w K mg base k N qual scope p body t) (hw : Walks T K N t R) : FO P w K mg base (k + 1) (He.fAd K p) ps (SpX T K (He.ga K) R) :=
  FO.mk' F S hb (fun vs H Q E h => spx_len hR h) fun A outer s H vs Q E hr h => ⟨_, hbody A outer s H E hr, fn_run h fun ds r hr => hw (fun c d _ H' => E c d H') ds r hr⟩
/-- the same of a given function object -/
theorem fn_ofX {T : Tbs} {R : List D → Res → Prop} {t : WX → TS} {fd : FuncData} (F : FunD K x qual params body scope [] [] (He.fAd K p) fd) (S : FnScope N ps scope)
    (hR : ∀ ds r, R ds r → ds.length = ps.length) (hbody : BodyOk P w K mg base k N qual scope p body t) (hw : Walks T K N t R) : FnOk P w K mg base (L2.CX P w) (k + 1) (He.fAd K p) fd ps (SpX T K (He.ga K) R) := by
  obtain ⟨oc, od, dV, kV, doc, pm, an, cdv, ct, osl, rfl, lk, hcd, _, _⟩ := F.ex
  obtain ⟨c, rfl⟩ := He.codeIn_ref hcd
  obtain rfl := He.codeOf_eq lk rfl
  exact fn_of lk hcd S (fun vs H Q E h => spx_len hR h) fun A outer s H vs Q E hr h => ⟨_, hbody A outer s H E hr, fn_run h fun ds r hr => hw (fun c d _ H' => E c d H') ds r hr⟩
/-- the law's promise at its script -/
theorem law_sp {T : Tbs} {R : List D → Res → Prop} (hR : ∀ ns : List Int, R [scr ns] (.ok (.bool true))) {H : Hp} {a : Addr} {ns : List Int} (hT : LamX.Tabs T H) (hS : SqL K H a (ns.map V.int)) : SpX T K (He.ga K) R [.ref a] H (fun v _ => v = .bl true) fun _ _ _ => False :=
  ⟨H, [scr ns], _, ⟨LamX.ExtN.refl _, fun _ h => h, hT⟩, .cons (.scr hS) .nil, hR ns, fun v B' H' _ _ r => by cases r; rfl⟩
theorem tabs_of {cs : List (Addr × Addr)} {q : Addr × Addr → Str} {H : Hp} (h : ∀ p ∈ cs, H p.2 = some (.tbl #[])) : LamX.Tabs (cs.map fun p => (p.2, q p)) H := fun p hp => by
  obtain ⟨c, hc, rfl⟩ := List.mem_map.mp hp
  exact ⟨#[], h c hc, by simp [TriplesOk], fun pos cv e => by simp [codeAmong] at e⟩
theorem no_out {P : Program} {w : World} {H : Hp} {s : Shared} {e : Value} {s' : Shared} (h : L2.CX P w [] H s (fun _ _ _ => False) e s') : False := by
  obtain ⟨_, _, _, _, _, _, _, _, _, _, _, _, z⟩ := h
  exact z
end
section
variable {X : Cx} {k k' : Nat} {a : Addr} {ps : List Str} {sp : Sp} {x : Str} {p pos : Pos} {e : Expr} {es : List Expr} {t : TA} {W : WX}
theorem pe_fo (F : FO X.prog X.w X.K X.mg X.base k a ps sp) (hr : Room k' X.A) (hk : k ≤ k') (hg : Gl X x) (hm : X.mg x = some (.ref a)) (tk : Takes X W) (ha : PA X (e :: es) t) (hdb : (x == ("__debug__" : Str)) = false := by decide)
    (he : starEach (e :: es) X.env = (false, eval e X.env) :: starEach es X.env := by rfl) (hpl : (backTo pos (starEach es X.env)).any (·.1) = false := by rfl) : PE X (.Call (.Name x p) (e :: es) [] pos) (tCallS sp (WE W) t) := by
  obtain ⟨fd, F1, hb⟩ := F.ex
  exact pe_callS F1 (hr.mono hk) hg hm F.kp hb (fun σ => passAt tk σ) ha hdb he hpl
theorem pe_fo0 (F : FO X.prog X.w X.K X.mg X.base k a ps sp) (hr : Room k' X.A) (hk : k ≤ k') (hg : Gl X x) (hm : X.mg x = some (.ref a)) (ha : PA X (e :: es) t) (hdb : (x == ("__debug__" : Str)) = false := by decide)
    (he : starEach (e :: es) X.env = (false, eval e X.env) :: starEach es X.env := by rfl) (hpl : (backTo pos (starEach es X.env)).any (·.1) = false := by rfl) : PE X (.Call (.Name x p) (e :: es) [] pos) (tCall sp [] E0 t) := by
  obtain ⟨fd, F1, hb⟩ := F.ex
  exact pe_call F1 (hr.mono hk) hg hm F.kp hb .nil passL ha hdb he hpl
theorem pe_gint {i : Int} (hg : Gl X x) (hm : ∃ t, X.mg x = some (.int i t)) (hd : (x == ("__debug__" : Str)) = false := by decide) : PE X (.Name x pos) (tC (.int i)) := by
  obtain ⟨t, ht⟩ := hm
  exact pe_glob hg ht ⟨t, rfl⟩ hd
end
/-! ### expressions that may raise -/
section
variable (T : Tbs) (K : PySem.W.Frag)
def EvW (W : WX) (t : TE) (ρ : List Slot) (r : Res) : Prop := ∀ (B0 H0 B H : Hp) (σ : L2.St), Fm T K B0 H0 B H σ ρ → ∀ Q : VK, ResOk T K (He.ga K) B H Q (fun c d H' => W c d σ H') r → t σ H Q
end
section
variable {T : Tbs} {K : PySem.W.Frag} {ρ : List Slot} {R : List D → Res → Prop} {W : WX} {ta : TA} {te : TE} {ds es : List D} {d : D} {r : Res} {i : Nat} {E : XK}
theorem evw_call (ha : EvA T K ta ρ ds) (hR : R ds r) : EvW T K W (tCallS (SpX T K (He.ga K) R) (WE W) ta) ρ r := fun B0 H0 B H σ F Q k =>
  ha B0 H0 B H σ F _ fun vs B1 H1 w1 l1 rp => ⟨B1, ds, r, w1, rp, hR, k.at l1⟩
theorem ev_callS (ha : EvA T K ta ρ ds) (hR : R ds (.ok d)) : Ev T K (tCallS (SpX T K (He.ga K) R) (WE W) ta) ρ d := evw_call ha hR
theorem evn_callS (ha : EvA T K ta ρ ds) (hR : R ds (.new es)) : EvN T K (tCallS (SpX T K (He.ga K) R) (WE W) ta) ρ es := evw_call ha hR
theorem ev_callSH (ha : EvAH T K ta ρ ds) (hR : R ds (.ok d)) (f : flat d = true) : Ev T K (tCallS (SpX T K (He.ga K) R) (WE W) ta) ρ d := fun B0 H0 B H σ F Q k =>
  ha B0 H0 B H σ F _ fun vs B1 H1 w1 l1 rp => ⟨H1, ds, _, w1.full, rp, hR, fun v B2 H2 w2 l2 rv => k v B1 H2 (w1.back l2 w2) (l1.trans l2.back) (flat_any rv f)⟩
theorem evn_callSH (ha : EvAH T K ta ρ ds) (hR : R ds (.new es)) (f : es.all flat = true) : EvN T K (tCallS (SpX T K (He.ga K) R) (WE W) ta) ρ es := fun B0 H0 B H σ F Q k =>
  ha B0 H0 B H σ F _ fun vs B1 H1 w1 l1 rp => ⟨H1, ds, _, w1.full, rp, hR, fun p us B2 H2 w2 l2 h1 h2 h3 rv =>
    k p us B1 H2 (w1.back l2 w2) (l1.trans l2.back) (l1.nn p h1) (w1.bn p h1) h3 (flats_any rv f)⟩
theorem EvW.okD (h : EvW T K W te ρ (.ok d)) : Ev T K te ρ d := h
theorem EvW.newN (h : EvW T K W te ρ (.new ds)) : EvN T K te ρ ds := h
theorem Ev.w (h : Ev T K te ρ d) : EvW T K W te ρ (.ok d) := h
theorem EvN.w (h : EvN T K te ρ ds) : EvW T K W te ρ (.new ds) := h
/-- ('word', e) -/
def Res.tag (x : Str) : Res → Res
  | .ok d => .ok (.tuple [.str x, d])
  | .new ds => .ok (.tuple [.str x, .list ds])
  | .ex c fs => .ex c fs
theorem evw_tag {x : Str} (h : EvW T K W te ρ r) : EvW T K W (tTup (tCons (tC (.str x)) (tCons te tNil))) ρ (r.tag x) := fun B0 H0 B H σ F Q k => by
  refine h B0 H0 B H σ F _ ?_
  cases r with
  | ok d => exact fun v B1 H1 w1 l1 rv => ⟨by show 2 ≤ sizeLine; rw [sizeLine_eq]; omega, fun p hp => (Ret.at (P := pd K (.tuple [.str x, d])) k l1).layT w1 hp (.cons (.str x) (.cons rv .nil))⟩
  | new ds =>
    refine fun p us B1 H1 w1 l1 h0 hb h1 rv => ⟨by show 2 ≤ sizeLine; rw [sizeLine_eq]; omega, fun q hq => ?_⟩
    have w2 := w1.join h1
    have l2 : Le B H (upd B1 p (.lst us)) H1 := l1.join hb h0
    exact (Ret.at (P := pd K (.tuple [.str x, .list ds])) k l2).layT w2 hq (.cons (.str x) (.cons (.lst upd_same (rv.mono (ExN.new hb))) .nil))
  | ex c fs => exact k
theorem xs_retW (h : EvW T K W te ρ r) : XS T K (He.ga K) W (tRet te) ρ (r.out ρ) := fun B0 H0 B H σ D F k => by
  refine h B0 H0 B H σ F _ ?_
  cases r with
  | ok d => exact Ret.at k F.le
  | new ds => exact RetN.at k F.le
  | ex c fs => exact fun cls dd B1 H1 w1 l1 e => k σ B1 H1 cls dd (F.mono w1 l1) l1.bb e
theorem xs_dropW (h : EvW T K W te ρ r) : XS T K (He.ga K) W (tDrop te) ρ (r.drop ρ) := fun B0 H0 B H σ D F k => by
  refine h B0 H0 B H σ F _ ?_
  cases r with
  | ok d => exact fun v B1 H1 w1 l1 _ => k σ B1 H1 (F.mono w1 l1) l1.bb
  | new ds => exact fun p vs B1 H1 w1 l1 _ _ _ _ => k σ B1 H1 (F.mono w1 l1) l1.bb
  | ex c fs => exact fun cls dd B1 H1 w1 l1 e => k σ B1 H1 cls dd (F.mono w1 l1) l1.bb e
def Res.asg (ρ : List Slot) (i : Nat) : Res → Out
  | .ok d => .nx (ρ.set i (.dat d))
  | .new ds => .nx (ρ.set i (.own ds))
  | .ex c fs => .ex c fs ρ
theorem xs_asgW (h : EvW T K W te ρ r) : XS T K (He.ga K) W (tAsg te (gName i)) ρ (r.asg ρ i) := fun B0 H0 B H σ D F k => by
  refine h B0 H0 B H σ F _ ?_
  cases r with
  | ok d => exact fun v B1 H1 w1 l1 rv => k _ B1 H1 ((F.mono w1 l1).setD rv) l1.bb
  | new ds => exact fun p vs B1 H1 w1 l1 h0 h1 h2 rv => k _ B1 H1 (F.setNew w1 l1 h0 h1 h2 rv) l1.bb
  | ex c fs => exact fun cls dd B1 H1 w1 l1 e => k σ B1 H1 cls dd (F.mono w1 l1) l1.bb e
end
/-! ### lists of data read by pl where a datum stands -/
section
variable {T : Tbs} {K : PySem.W.Frag} {ds es : List D} {P2 P3 : VP}
theorem pd_pl {B H : Hp} {x : V} (w : Wf T B H) (h : pd K (.list ds) B H x) : pl K ds B H x := by
  cases h with
  | lst e r => exact ⟨_, _, rfl, w.bh _ _ e (fun ps z => by cases z), r⟩
theorem RD2.l1 {r : R2} (h : RD2 T r (pl K ds) P2 P3) : RD2 T r (pd K (.list ds)) P2 P3 := fun B H x y w h1 h2 Q k => h B H x y w (pd_pl w h1) h2 Q k
theorem RD2.l2 {r : R2} {P1 : VP} (h : RD2 T r P1 (pl K ds) P3) : RD2 T r P1 (pd K (.list ds)) P3 := fun B H x y w h1 h2 Q k => h B H x y w h1 (pd_pl w h2) Q k
theorem RD2N.l1 {r : R2} (h : RD2N T K r (pl K ds) P2 es) : RD2N T K r (pd K (.list ds)) P2 es := fun B H x y w h1 h2 Q k => h B H x y w (pd_pl w h1) h2 Q k
theorem RD2N.l2 {r : R2} {P1 : VP} (h : RD2N T K r P1 (pl K ds) es) : RD2N T K r P1 (pd K (.list ds)) es := fun B H x y w h1 h2 Q k => h B H x y w h1 (pd_pl w h2) Q k
theorem RA1.l {r : List V → Hp → VK → Prop} (h : RA1 T r (pl K ds) P3) : RA1 T r (pd K (.list ds)) P3 := fun B H x w h1 Q k => h B H x w (pd_pl w h1) Q k
theorem RA1N.l {r : List V → Hp → VK → Prop} (h : RA1N T K r (pl K ds) es) : RA1N T K r (pd K (.list ds)) es := fun B H x w h1 Q k => h B H x w (pd_pl w h1) Q k
/-- == of a datum and a list not shared -/
theorem rd_eqDL {d : D} (s1 : SeqAt.shaped d = true) (s2 : SeqAt.shaped (.list ds) = true) : RD2 T (rEqD K) (pd K d) (pl K ds) (pd K (.bool (PyData.eqv d (.list ds)))) := fun B H x y w h1 h2 Q k =>
  ⟨d, _, w.dp h1 s1, pl_dp w h2 s2, s1, s2, k.here w (.bl _)⟩
theorem rd_neDL {d : D} (s1 : SeqAt.shaped d = true) (s2 : SeqAt.shaped (.list ds) = true) : RD2 T (rNeD K) (pd K d) (pl K ds) (pd K (.bool (!PyData.eqv d (.list ds)))) := fun B H x y w h1 h2 Q k =>
  ⟨d, _, w.dp h1 s1, pl_dp w h2 s2, s1, s2, k.here w (.bl _)⟩
theorem rd_eqLL (s1 : SeqAt.shaped (.list ds) = true) (s2 : SeqAt.shaped (.list es) = true) : RD2 T (rEqD K) (pl K ds) (pl K es) (pd K (.bool (PyData.eqv (.list ds) (.list es)))) := fun B H x y w h1 h2 Q k =>
  ⟨_, _, pl_dp w h1 s1, pl_dp w h2 s2, s1, s2, k.here w (.bl _)⟩
theorem rd_neLL (s1 : SeqAt.shaped (.list ds) = true) (s2 : SeqAt.shaped (.list es) = true) : RD2 T (rNeD K) (pl K ds) (pl K es) (pd K (.bool (!PyData.eqv (.list ds) (.list es)))) := fun B H x y w h1 h2 Q k =>
  ⟨_, _, pl_dp w h1 s1, pl_dp w h2 s2, s1, s2, k.here w (.bl _)⟩
theorem rd_isNL : RD2 T rIsN (pl K ds) (pd K .none) (pd K (.bool false)) := fun B H x y w h1 h2 Q k => by
  cases h2
  obtain ⟨p, vs, rfl, _, _⟩ := h1
  exact ⟨rfl, k.here w (.bl _)⟩
theorem rd_notNL : RD2 T rNotN (pl K ds) (pd K .none) (pd K (.bool true)) := fun B H x y w h1 h2 Q k => by
  cases h2
  obtain ⟨p, vs, rfl, _, _⟩ := h1
  exact ⟨rfl, k.here w (.bl _)⟩
def rNeg : V → Hp → VK → Prop := rU fun i => .int (-i)
theorem u_neg {X : Cx} : UnR X (unaryOp .USub) rNeg := un_neg
theorem ra_neg {i : Int} : RD1 T rNeg (pd K (.int i)) (pd K (.int (-i))) := fun B H x w h Q k => by
  cases h
  exact ⟨i, rfl, k.here w (.int _)⟩
end
end XL
/-! XL, part i: raise and try by data, sorting by data, while. -/
namespace XL
open PySem L2
/-! ### raise C(e) -/
def tRaise1 (K : PySem.W.Frag) (c f : Str) (W : WX) (te : TE) : TS := fun _ σ H => tMkO (He.ga K c) (spIni K (He.ga K c) f) [] (tCons te tNil) σ H fun cls d H' => W cls d σ H'
section
variable {X : Cx} {k k' : Nat} {c f : Str} {p pos pos2 : Pos} {e : Expr} {te : TE} {W : WX} {exs : List (Str × List Str)} {ps : List Str}
theorem ps_raiseC (hc : X.calm = true) (hex : exAllB X.K exs = true) (hp : (c, [f]) ∈ exs) (F : FO X.prog X.w X.K X.mg X.base k (He.fAd X.K (c, some "__init__")) ps (spIni X.K (He.ga X.K c) f)) (hr : Room k' X.A) (hk : k + 1 ≤ k') (hg : Gl X c) (hm : X.mg c = some (.ref (He.ga X.K c)))
    (tk : Takes X W) (ha : PE X e te) (hdb : (c == ("__debug__" : Str)) = false := by decide) (he : starEach [e] X.env = (false, eval e X.env) :: starEach [] X.env := by rfl) (hpl : (backTo pos (starEach [] X.env)).any (·.1) = false := by rfl) :
    PS X (.Raise (some (.Call (.Name c p) [e] [] pos)) none pos2) (tRaise1 X.K c f W te) := by
  have EF := exF_of hex hp
  obtain ⟨fd, F1, hb⟩ := F.ex
  exact ps_raise hc tk (pmk_oex EF.o EF.iC EF.tI F1 (hr.mono hk) hb .nil (fun _ _ _ _ _ _ _ h => passL (X := X) _ _ _ _ _ _ ‹_› h) hg hm (pa_cons ha pa_nil he) hdb he hpl)
end
section
variable {T : Tbs} {K : PySem.W.Frag} {ρ : List Slot} {W : WX} {te : TE} {d : D} {c f : Str} {exs : List (Str × List Str)}
theorem xs_raiseC (hex : exAllB K exs = true) (hp : (c, [f]) ∈ exs) (h : Ev T K te ρ d) : XS T K (He.ga K) W (tRaise1 K c f W te) ρ (.ex c [(f, d)] ρ) :=
  xs_raise1 (cl := He.ga K) rfl (exF_of hex hp).o ((exF_of hex hp).no f (by simp)) h
end
/-- an __init__ of one field -/
theorem FO.ofInit {P : Program} {w : World} {K : PySem.W.Frag} {mg : Str → Option Value} {base : Heap} {x qual c f : Str} {params : Arguments} {body : List Stmt} {scope : Scope} {N ps : List Str} {k : Nat}
    (F : ∃ fd, FunD K x qual params body scope [] [] (He.fAd K (c, some "__init__")) fd) (S : FnScope N ps scope) (hN : N.length = 2) (hps : ps.length = 2)
    (hb : ∀ (kV doc pm : Value) (an : Option Addr) (cdv ct : Value) (us : List Value), us.length = ps.length → bindArgs (PySem.W.fnOf x qual params body scope .none kV doc pm an cdv ct) ⟨us, []⟩ = pure (ps.zip us))
    (hbody : ∀ (A : Around) (outer : List Env) (s : Shared) (H : Hp) (E : XK), PSs (cxOf (L2.CX P w) P w K mg base N qual scope (He.fAd K (c, some "__init__")) (.ref (He.codeOf K (c, some "__init__"))) A outer s H E) body (tOst K f (tVar 0) (tVar 1))) :
    FO P w K mg base (k + 1) (He.fAd K (c, some "__init__")) ps (spIni K (He.ga K c) f) :=
  FO.mk' F S hb (fun vs H Q E ⟨a, v, e, _⟩ => by rw [e, hps]; rfl) fun A outer s H vs Q E hr h => ⟨_, hbody A outer s H E, ini_run hN h⟩
theorem at_map {α : Type} {f : α → D} {l : List α} {i : Nat} {a : α} (h : l[i]? = some a) : atI (l.map f) (i : Int) = some (f a) := atI_nat' (by rw [List.getElem?_map, h]; rfl)
/-! ### try: .. except C as n: return ('C', n.f) .. -/
def tTryAs (K : PySem.W.Frag) (W : WX) (l : List Clause) (tb : WX → TS) : TS := fun D σ H => tb (wAll K W D l) D σ H
theorem ps_tryC {X : Cx} {body : List Stmt} {h₀ : ExceptHandler} {hds : List ExceptHandler} {l : List Clause} {pos : Pos} {tb : WX → TS} {Wout : WX} (hs : X.stack = X.env :: X.outer) (hf : X.env.frame = some X.env.locals) (hN : X.N.Nodup) (tk : Takes X Wout)
    (hb : ∀ (W : WX) (pn : List (Addr × Obj)) (xe : Value → Shared → Prop), Takes (X.tr pn xe) W → PassesOwn (PySem.model X.prog X.w) X.A X.env xe → PSs (X.tr pn xe) body (tb W))
    (hh : Clauses X (h₀ :: hds) l) : PS X (.Try body (h₀ :: hds) [] [] pos) (tTryAs X.K Wout l tb) := ps_tryAs hs hf hN tk hb hh
def frB (sc scope : Scope) : Bool := scope.names.all fun y => match y.2 with
  | .free => (match sc.names.lookup y.1 with
    | some .cell => true
    | some .free => true
    | _ => false)
  | _ => true
theorem free_by {sc scope : Scope} (h : frB sc scope = true) : ∀ y ∈ scope.names, y.2 = .free → sc.names.lookup y.1 = some .cell ∨ sc.names.lookup y.1 = some .free := fun y hy e => by
  have h1 := List.all_eq_true.mp h y hy
  rw [e] at h1
  dsimp only at h1
  split at h1
  · exact .inl ‹_›
  · exact .inr ‹_›
  · cases h1
/-- the clause that gives its name and its field -/
def clTag (K : PySem.W.Frag) (i : Nat) (c f w : Str) : Clause := (.ref (He.ga K c), i, fun a cls d => tRet (tTup (tCons (tC (.str w)) (tCons (tXf a cls d (He.ga K c) f (tVar i)) tNil))))
def tagOut (exs : List (Str × List Str)) (ws : List (Str × Str × Str)) (ρ : List Slot) : Out → Out
  | .ex c fs ρ1 => match ws.find? (fun q => q.1 == c) with
    | some q => (match fs.find? (fun p => p.1 == q.2.1) with
      | some p => .rt (.tuple [.str q.2.2, p.2])
      | none => .ex c fs ρ1)
    | none => .ex c fs ρ1
  | o => o
section
variable {T : Tbs} {K : PySem.W.Frag} {ρ : List Slot} {W : WX} {tb : WX → TS} {i : Nat} {o : Out} {exs : List (Str × List Str)}
theorem look_fs {B : Hp} {f : Str} : ∀ {fv : List (Str × V)} {fs : List (Str × D)} {p : Str × D}, fv.map (·.1) = fs.map (·.1) → RpAll K B (fv.map (·.2)) (fs.map (·.2)) → fs.find? (fun p => p.1 == f) = some p → ∃ v, fv.lookup f = some v ∧ Rp K B v p.2
  | [], [], p, _, _, h => by cases h
  | [], _ :: _, p, e, _, _ => by cases e
  | _ :: _, [], p, e, _, _ => by cases e
  | (n, v) :: fv, (m, d) :: fs, p, e, r, h => by
    rw [List.map_cons, List.map_cons] at e
    injection e with e1 e2
    have e1' : n = m := e1
    subst e1'
    cases r with
    | cons r1 r2 =>
      by_cases q : n = f
      · subst q
        rw [List.find?_cons_of_pos (by simp)] at h
        cases h
        exact ⟨v, by simp, r1⟩
      · rw [List.find?_cons_of_neg (by simpa using q)] at h
        obtain ⟨u, h1, h2⟩ := look_fs e2 r2 h
        refine ⟨u, ?_, h2⟩
        rw [List.lookup_cons]
        have q2 : (f == n) = false := by simp [beq_eq_false_iff_ne]; exact fun z => q z.symm
        rw [q2]
        exact h1
theorem tag_run {B0 H0 B H : Hp} {σ : L2.St} {D : Ends} {c f w : Str} {fs : List (Str × XL.D)} {p : Str × XL.D} {cls : Value} {dd : Option Addr} {ρ1 : List Slot} (F : Fm T K B0 H0 B H σ ρ1) (hi : i < ρ1.length) (er : ErrAt K (He.ga K) c fs cls dd B H) (hf : fs.find? (fun p => p.1 == f) = some p)
    (k : Ret T B0 H0 (pd K (.tuple [.str w, p.2])) D.rt) (a : Addr) : (clTag K i c f w).2.2 a cls dd (endAs D i) (σ.set i (some (.ref a))) H := by
  obtain ⟨ec, d, fv, ed, hd, e1, r⟩ := er
  obtain ⟨v, hl, rv⟩ := look_fs e1 r hf
  have hi2 : i < σ.length := by rw [F.len]; exact hi
  refine ⟨.ref a, List.getElem?_set_self hi2, rfl, ec, d, fv, v, ed, hd, hl, by show 2 ≤ sizeLine; rw [sizeLine_eq]; omega, fun q hq => ?_⟩
  exact (k.at F.le).layT F.wf hq (.cons (.str w) (.cons rv .nil))
theorem wAll_tag (hex : exAllB K exs = true) {ws : List (Str × Str × Str)} (hws : ∀ q ∈ ws, (q.1, [q.2.1]) ∈ exs) {c f0 : Str} {fs : List (Str × D)} {ρ1 : List Slot} (hc : (c, [f0]) ∈ exs) (hi : i < ρ1.length) {B0 H0 B1 B H : Hp} {σ : L2.St} {D : Ends} {cls : Value} {dd : Option Addr}
    (k : Sat T K (He.ga K) B0 H0 B1 W D (tagOut exs ws ρ (.ex c fs ρ1))) (hfs : ∀ q ∈ ws, q.1 = c → ∃ p, fs.find? (fun p => p.1 == q.2.1) = some p) (F : Fm T K B0 H0 B H σ ρ1) (ex : ExN B1 B) (er : ErrAt K (He.ga K) c fs cls dd B H) :
    wAll K W D (ws.map fun q => clTag K i q.1 q.2.1 q.2.2) cls dd σ H := by
  induction ws with
  | nil => exact k σ B H cls dd F ex er
  | cons q ws ih =>
    refine ⟨c == q.1, ?_, fun hb a _ => ?_, fun hb => ?_⟩
    · rw [er.1]
      exact exm_of hex hc (hws q List.mem_cons_self)
    · have hb' : c = q.1 := by simpa using hb
      subst hb'
      obtain ⟨p, hp⟩ := hfs q List.mem_cons_self rfl
      have k' : Ret T B0 H0 (pd K (.tuple [.str q.2.2, p.2])) D.rt := by
        have e : tagOut exs (q :: ws) ρ (.ex q.1 fs ρ1) = .rt (.tuple [.str q.2.2, p.2]) := by
          simp [tagOut, hp]
        rw [e] at k
        exact k
      exact tag_run F hi er hp k' a
    · have hb' : ¬ q.1 = c := fun z => by rw [z] at hb; simp at hb
      refine ih (fun q hq => hws q (List.mem_cons_of_mem _ hq)) ?_ fun q hq => hfs q (List.mem_cons_of_mem _ hq)
      have e : tagOut exs (q :: ws) ρ (.ex c fs ρ1) = tagOut exs ws ρ (.ex c fs ρ1) := by
        simp [tagOut, hb']
      rw [e] at k
      exact k
theorem xs_try (hex : exAllB K exs = true) {ws : List (Str × Str × Str)} (hws : ∀ q ∈ ws, (q.1, [q.2.1]) ∈ exs) (hb : ∀ W', XS T K (He.ga K) W' (tb W') ρ o)
    (ho : ∀ c fs ρ1, o = .ex c fs ρ1 → (∃ f, (c, [f]) ∈ exs) ∧ i < ρ1.length ∧ ∀ q ∈ ws, q.1 = c → ∃ p, fs.find? (fun p => p.1 == q.2.1) = some p) :
    XS T K (He.ga K) W (tTryAs K W (ws.map fun q => clTag K i q.1 q.2.1 q.2.2) tb) ρ (tagOut exs ws ρ o) := fun B0 H0 B H σ D F k => by
  refine hb _ B0 H0 B H σ D F ?_
  cases o with
  | nx ρ' => exact k
  | rt d => exact k
  | rn ds => exact k
  | bk ρ' => exact k
  | ct ρ' => exact k
  | ex c fs ρ1 =>
    obtain ⟨⟨f, hc⟩, hi, hfs⟩ := ho c fs ρ1 rfl
    exact fun σ' B' H' cls dd F' e' er => wAll_tag hex hws hc hi k hfs F' e' er
end
/-! ### sorting by data -/
section
variable (T : Tbs) (K : PySem.W.Frag)
def EvS (src : TSrc) (ρ : List Slot) (ds : List D) : Prop := ∀ (B0 H0 B H : Hp) (σ : L2.St), Fm T K B0 H0 B H σ ρ → ∀ R : List V → Hp → Prop, (∀ xs B' H', Wf T B' H' → Le B H B' H' → RpAll K B' xs ds → R xs H') → src σ H R
end
section
variable {T : Tbs} {K : PySem.W.Frag} {ρ : List Slot} {te : TE} {ds : List D}
theorem es_list (h : EvL T K te ρ ds) : EvS T K (srcL K te) ρ ds := fun B0 H0 B H σ F R k => h B0 H0 B H σ F _ fun v B' H' w l ⟨p, vs, e, hp, r⟩ => ⟨p, vs, e, SqL.of hp, k vs B' H' w l r⟩
theorem es_rng {z : Int} {n : Nat} (h : Ev T K te ρ (.int z)) (hz : z = (n : Int)) (hn : n ≤ 100000) : EvS T K (srcR te) ρ ((List.range n).map fun i : Nat => PyData.int (i : Int)) := fun B0 H0 B H σ F R k => h B0 H0 B H σ F _ fun v B' H' w l r => by
  cases r
  subst hz
  refine ⟨n, rfl, hn, k _ B' H' w l ?_⟩
  have key : ∀ l : List Nat, RpAll K B' (l.map fun i : Nat => V.int (i : Int)) (l.map fun i : Nat => PyData.int (i : Int)) := fun l => by
    induction l with
    | nil => exact .nil
    | cons a l ih => exact .cons (.int _) ih
  exact key _
/-- the slots that the lambda captures -/
def capS (ρ : List Slot) (js : List Nat) : List Slot := js.map fun j => (ρ[j]?).getD .any
/-- none of the captured lists is owned -/
def noOwn : List Slot → Bool
  | [] => true
  | .own _ :: _ => false
  | _ :: r => noOwn r
theorem fm_lam {B0 H0 B H H2 : Hp} {σ : L2.St} {N : List Str} {js : List Nat} {x : V} {d : D} (F : Fm T K B0 H0 B H σ ρ) (hN : N.length = js.length + 1) (ho : noOwn (capS ρ js) = true) (kp : Kp T H H2) (rx : Rp K B x d) :
    Fm T K B H2 B H2 (NdefX.startF N [x] (js.map (NdefX.slotAt σ))) (.dat d :: capS ρ js) := by
  have w2 : Wf T B H2 := ⟨F.wf.bh.trans kp.hh, fun a h => F.wf.bn a (kp.nn a h), kp.tb F.wf.tb⟩
  have nown : ∀ (i : Nat) (ds : List D), (Slot.dat d :: capS ρ js)[i]? = some (.own ds) → False := fun i ds e => by
    cases i with
    | zero => simp at e
    | succ i =>
      rw [List.getElem?_cons_succ] at e
      have key : ∀ (l : List Slot) (i : Nat), noOwn l = true → l[i]? = some (.own ds) → False := fun l => by
        induction l with
        | nil => intro i _ e; simp at e
        | cons s r ih =>
          intro i h e
          cases i with
          | zero =>
            simp at e; subst e; cases h
          | succ i =>
            rw [List.getElem?_cons_succ] at e
            cases s with
            | own ds' => cases h
            | any => exact ih i h e
            | dat d' => exact ih i h e
      exact key _ i ho e
  have hs : NdefX.startF N [x] (js.map (NdefX.slotAt σ)) = some x :: js.map (NdefX.slotAt σ) := by
    unfold NdefX.startF
    simp [hN]
  refine ⟨w2, Le.refl B H2, ?_, fun i s e => ?_, fun i j ds1 ds2 p e1 _ _ _ => (nown i ds1 e1).elim⟩
  · rw [hs]; simp [capS]
  · rw [hs]
    cases i with
    | zero =>
      rw [List.getElem?_cons_zero] at e
      cases e
      exact ⟨some x, rfl, x, rfl, rx⟩
    | succ i =>
      rw [List.getElem?_cons_succ] at e ⊢
      unfold capS at e
      rw [List.getElem?_map] at e ⊢
      cases q : js[i]? with
      | none => rw [q] at e; cases e
      | some j =>
        rw [q] at e
        have e' : some ((ρ[j]?).getD .any) = some s := e
        refine ⟨NdefX.slotAt σ j, rfl, ?_⟩
        cases s with
        | any => trivial
        | own ds => exact (nown (i + 1) ds (by rw [List.getElem?_cons_succ]; unfold capS; rw [List.getElem?_map, q]; exact e')).elim
        | dat dd =>
          cases q2 : ρ[j]? with
          | none => rw [q2] at e'; cases e'
          | some s2 =>
            rw [q2] at e'
            cases e'
            obtain ⟨v, hv, rv⟩ := F.dat q2
            refine ⟨v, ?_, rv⟩
            unfold NdefX.slotAt
            rw [hv]
theorem RpAll.ofMem {B : Hp} {α : Type} {e : α → D} : ∀ {L : List (V × α)}, (∀ p ∈ L, Rp K B p.1 (e p.2)) → RpAll K B (L.map (·.1)) (L.map fun p => e p.2)
  | [], _ => .nil
  | p :: L, h => .cons (h p List.mem_cons_self) (RpAll.ofMem fun q hq => h q (List.mem_cons_of_mem _ hq))
theorem RpAll.memZip {B : Hp} {α : Type} {e : α → D} : ∀ {vs : List V} {l : List α}, RpAll K B vs (l.map e) → ∀ p ∈ vs.zip l, Rp K B p.1 (e p.2)
  | [], [], _, p, h => by cases h
  | [], _ :: _, r, p, h => by cases h
  | _ :: _, [], r, p, h => by cases h
  | v :: vs, a :: l, r, p, h => by
    cases r with
    | cons r1 r2 =>
      rcases List.mem_cons.mp h with rfl | h
      · exact r1
      · exact RpAll.memZip r2 p h
theorem sortedBy_rp {B : Hp} {α : Type} {e key : α → D} {vs : List V} {l : List α} (r : RpAll K B vs (l.map e)) : RpAll K B (sortedBy vs (l.map key)) ((l.mergeSort (PySem.W.dataLe false key)).map e) := by
  have hl : vs.length = l.length := by rw [r.len, List.length_map]
  have h1 : (vs.zip l).map (·.1) = vs := List.map_fst_zip (by omega)
  have h2 : (vs.zip l).map (·.2) = l := List.map_snd_zip (by omega)
  have e1 : vs.zip (l.map key) = (vs.zip l).map fun p => (p.1, key p.2) := by
    rw [List.zip_map_right]
    rfl
  have e2 : sortedBy vs (l.map key) = ((vs.zip l).mergeSort (PySem.W.dataLe false fun p => key p.2)).map (·.1) := by
    unfold sortedBy
    have h := List.map_mergeSort (r := PySem.W.dataLe false fun p : V × α => key p.2) (s := PySem.W.dataLe false Prod.snd) (f := fun p : V × α => (p.1, key p.2)) (l := vs.zip l) (fun a _ b _ => rfl)
    rw [e1, ← h, List.map_map]
    rfl
  have e3 : (l.mergeSort (PySem.W.dataLe false key)) = ((vs.zip l).mergeSort (PySem.W.dataLe false fun p => key p.2)).map (·.2) := by
    have h := List.map_mergeSort (r := PySem.W.dataLe false fun p : V × α => key p.2) (s := PySem.W.dataLe false key) (f := fun p : V × α => p.2) (l := vs.zip l) (fun a _ b _ => rfl)
    rw [h, h2]
  rw [e2, e3, List.map_map]
  exact RpAll.ofMem fun p hp => r.memZip p ((List.mergeSort_perm _ _).mem_iff.mp hp)
/-- sorted(src, key=lambda x: ..) -/
theorem evn_sortk {α : Type} {l : List α} {e key : α → D} {src : TSrc} {N : List Str} {js : List Nat} {tb : TE} (hs : EvS T K src ρ (l.map e)) (hz : l.length ≤ 100000) (hN : N.length = js.length + 1) (ho : noOwn (capS ρ js) = true)
    (hal : PySem.W.AllAlike (l.map key)) (hsk : PySem.W.Sortable (l.map key)) (hdp : ∀ a ∈ l, (key a).depth ≤ 60) (hsh : ∀ a ∈ l, SeqAt.shaped (key a) = true) (hb : ∀ a ∈ l, Ev T K tb (.dat (e a) :: capS ρ js) (key a)) :
    EvN T K (tSortK T K src N js tb) ρ ((l.mergeSort (PySem.W.dataLe false key)).map e) := fun B0 H0 B H σ F Q k =>
  hs B0 H0 B H σ F _ fun xs B1 H1 w1 l1 r => by
    have hl : xs.length = l.length := by rw [r.len, List.length_map]
    refine ⟨w1.tb, by rw [hl]; exact Nat.le_trans hz (by decide), l.map key, by rw [List.length_map, hl], hal, hsk, fun d hd => ?_, fun i x d hx hd H2 kp => ?_, fun p H3 kp h3 h1 => ?_⟩
    · obtain ⟨a, ha, rfl⟩ := List.mem_map.mp hd
      exact hdp a ha
    · rw [List.getElem?_map] at hd
      cases q : l[i]? with
      | none => rw [q] at hd; cases hd
      | some a =>
        rw [q] at hd
        have hd' : some (key a) = some d := hd
        cases hd'
        have hm : a ∈ l := List.mem_of_getElem? q
        obtain ⟨d', hd2, rx⟩ := r.getV hx
        rw [List.getElem?_map, q] at hd2
        have hd3 : some (e a) = some d' := hd2
        cases hd3
        refine hb a hm _ _ _ _ _ (fm_lam (F.mono w1 l1) hN ho kp rx) _ fun v B3 H3 w3 l3 rv => ⟨⟨l3.hh, l3.nn, fun _ => w3.tb⟩, w3.dp rv (hsh a hm)⟩
    · have w3 : Wf T B1 H3 := ⟨w1.bh.trans kp.hh, fun a h => w1.bn a (kp.nn a h), kp.tb w1.tb⟩
      have l3 : Le B1 H1 B1 H3 := ⟨LamX.ExtN.refl _, kp.hh, kp.nn, fun a h h' => absurd h h'⟩
      exact (k.at (l1.trans l3)).lay w3 h3 (sortedBy_rp r)
end
/-! ### sorted of ints, of pairs of ints -/
def rSrt (K : PySem.W.Frag) : List V → Hp → VK → Prop := fun xs H Q => rSortedI K xs H Q ∨ rSortedPO K xs H Q
theorem c_sorted {X : Cx} : CallR X (.builtin "sorted") (rSrt X.K) := CallR.or cr_sortedI cr_sortedPO
def sortI (ns : List Int) : List Int := ns.mergeSort fun a b => decide (a ≤ b)
theorem sortI_perm (ns : List Int) : (sortI ns).Perm ns := List.mergeSort_perm _ _
theorem sortI_sorted (ns : List Int) : (sortI ns).Pairwise (· ≤ ·) := (List.pairwise_mergeSort (le := fun a b : Int => decide (a ≤ b)) (fun a b c h1 h2 => by simp at *; omega) (fun a b => by simp; omega) ns).imp (by simp)
def leP (p q : Int × Int) : Bool := decide (p.1 < q.1 ∨ (p.1 = q.1 ∧ p.2 ≤ q.2))
def sortP (l : List (Int × Int)) : List (Int × Int) := l.mergeSort leP
theorem leP_trans (a b c : Int × Int) (h1 : leP a b = true) (h2 : leP b c = true) : leP a c = true := by
  unfold leP at *
  simp at *
  omega
theorem leP_total (a b : Int × Int) : (leP a b || leP b a) = true := by
  unfold leP
  simp
  omega
theorem leP_anti {a b : Int × Int} (h1 : leP a b = true) (h2 : leP b a = true) : a = b := by
  unfold leP at *
  simp at *
  obtain ⟨a1, a2⟩ := a
  obtain ⟨b1, b2⟩ := b
  simp at *
  omega
theorem sortP_perm (l : List (Int × Int)) : (sortP l).Perm l := List.mergeSort_perm _ _
theorem sortP_sorted (l : List (Int × Int)) : (sortP l).Pairwise (fun a b => leP a b = true) := List.pairwise_mergeSort (le := leP) leP_trans leP_total l
abbrev pairD (p : Int × Int) : D := .tuple [.int p.1, .int p.2]
section
variable {T : Tbs} {K : PySem.W.Frag}
theorem ran_sortI {ns : List Int} : RA1N T K (rSrt K) (pl K (ns.map .int)) ((sortI ns).map .int) := fun B H v w ⟨p, vs, e, h, r⟩ Q k => by
  subst e
  rw [r.ints] at h
  refine .inl ⟨p, ns, rfl, SqL.of h, fun ns' q hp hs hq => ?_⟩
  have e : ns' = sortI ns := List.Perm.eq_of_pairwise (le := (· ≤ ·)) (fun a b _ _ h1 h2 => Int.le_antisymm h1 h2) hs (sortI_sorted ns) (hp.trans (sortI_perm ns).symm)
  rw [e]
  exact k.lay w hq (.ofInts _)
theorem pair_of {B H : Hp} {v : V} {p : Int × Int} (w : Wf T B H) (h : Rp K B v (pairD p)) : ∃ t, v = .ref t ∧ H t = some (.tup [.int p.1, .int p.2]) := by
  cases h with
  | tup e r =>
    cases r with
    | cons h1 r => cases r with
      | cons h2 r =>
        cases r; cases h1; cases h2
        exact ⟨_, rfl, w.bh _ _ e (fun ps z => by cases z)⟩
/-- the pair that v bears -/
noncomputable def kOf (L : List (V × (Int × Int))) (v : V) : Int × Int := match L.find? (fun p => decide (p.1 = v)) with
  | some p => p.2
  | none => (0, 0)
theorem rp_inj {B H : Hp} {v : V} {p q : Int × Int} (w : Wf T B H) (h1 : Rp K B v (pairD p)) (h2 : Rp K B v (pairD q)) : p = q := by
  obtain ⟨t, rfl, e1⟩ := pair_of w h1
  obtain ⟨t2, e, e2⟩ := pair_of w h2
  cases e
  rw [e1] at e2
  injection e2 with e2
  injection e2 with e2
  injection e2 with e3 e4
  injection e3 with e3
  injection e4 with e4
  injection e4 with e4
  exact Prod.ext e3 e4
theorem kOf_eq {B H : Hp} {L : List (V × (Int × Int))} (w : Wf T B H) (hL : ∀ p ∈ L, Rp K B p.1 (pairD p.2)) {p : V × (Int × Int)} (hp : p ∈ L) : kOf L p.1 = p.2 := by
  unfold kOf
  cases q : L.find? (fun x => decide (x.1 = p.1)) with
  | none =>
    have := List.find?_eq_none.mp q p hp
    simp at this
  | some z =>
    have h1 := List.mem_of_find?_eq_some q
    have h2 : z.1 = p.1 := by simpa using List.find?_some q
    have h3 := hL z h1
    rw [h2] at h3
    exact rp_inj w h3 (hL p hp)
theorem ran_sortP {l : List (Int × Int)} : RA1N T K (rSrt K) (pl K (l.map pairD)) ((sortP l).map pairD) := fun B H v w ⟨p, vs, e, h, r⟩ Q k => by
  subst e
  have hl : vs.length = l.length := by rw [r.len, List.length_map]
  have hz : ∀ q ∈ vs.zip l, Rp K B q.1 (pairD q.2) := r.memZip
  have hk : ∀ q ∈ vs.zip l, kOf (vs.zip l) q.1 = q.2 := fun q hq => kOf_eq w hz hq
  have h1 : (vs.zip l).map (·.1) = vs := List.map_fst_zip (by omega)
  have h2 : (vs.zip l).map (·.2) = l := List.map_snd_zip (by omega)
  have hin : ∀ x ∈ vs, ∃ q ∈ vs.zip l, q.1 = x := fun x hx => by
    rw [← h1] at hx
    exact List.mem_map.mp hx
  have hmap : vs.map (kOf (vs.zip l)) = l := by
    have e1 : ((vs.zip l).map (·.1)).map (kOf (vs.zip l)) = (vs.zip l).map (·.2) := by
      rw [List.map_map]
      exact List.map_congr_left hk
    rw [h1, h2] at e1
    exact e1
  refine .inr ⟨p, vs, kOf (vs.zip l), rfl, SqL.of h, fun x hx => ?_, fun ys q hs hb hq => ?_⟩
  · obtain ⟨z, hz1, rfl⟩ := hin x hx
    rw [hk z hz1]
    exact pair_of w (hz z hz1)
  · have hys : RpAll K B ys ((ys.map (kOf (vs.zip l))).map pairD) := by
      have key : ∀ zs : List V, (∀ z ∈ zs, z ∈ vs) → RpAll K B zs ((zs.map (kOf (vs.zip l))).map pairD) := fun zs => by
        induction zs with
        | nil => exact fun _ => .nil
        | cons z zs ih =>
          intro hm
          obtain ⟨y, hy, e⟩ := hin z (hm z List.mem_cons_self)
          refine .cons ?_ (ih fun a ha => hm a (List.mem_cons_of_mem _ ha))
          subst e
          rw [hk y hy]
          exact hz y hy
      exact key ys fun z hz => hb.perm.mem_iff.mp hz
    have e : ys.map (kOf (vs.zip l)) = sortP l := by
      refine List.Perm.eq_of_pairwise (le := fun a b => leP a b = true) (fun a b _ _ h1 h2 => leP_anti h1 h2) ?_ (sortP_sorted l) ?_
      · rw [List.pairwise_map]
        refine List.Pairwise.imp ?_ hs
        intro a b hab
        have := SrtO.lexB_no.mp hab
        unfold leP
        simp
        omega
      · refine (hb.perm.map _).trans ?_
        rw [hmap]
        exact (sortP_perm l).symm
    rw [e] at hys
    exact k.lay w hq hys
end
end XL
/-! XL, part j: short rules, plain facts about data. -/
namespace XL
open PySem L2
section
variable {T : Tbs} {K : PySem.W.Frag} {ρ : List Slot} {ta tb : TE} {t u : TT} {a b : Bool}
theorem ev_andF (h1 : Ev T K ta ρ (.bool false)) : Ev T K (tAndV ta tb) ρ (.bool false) := ev_andV (b := false) h1 fun h => by cases h
theorem ev_andT (h1 : Ev T K ta ρ (.bool true)) (h2 : Ev T K tb ρ (.bool b)) : Ev T K (tAndV ta tb) ρ (.bool b) := ev_andV h1 fun _ => h2
theorem ev_orT (h1 : Ev T K ta ρ (.bool true)) : Ev T K (tOrV ta tb) ρ (.bool true) := ev_orV (b := true) h1 fun h => by cases h
theorem ev_orF (h1 : Ev T K ta ρ (.bool false)) (h2 : Ev T K tb ρ (.bool b)) : Ev T K (tOrV ta tb) ρ (.bool b) := ev_orV h1 fun _ => h2
theorem et_andF (h1 : EvT T K t ρ false) : EvT T K (tAnd t u) ρ false := et_and (b := false) h1 fun h => by cases h
theorem et_andT (h1 : EvT T K t ρ true) (h2 : EvT T K u ρ b) : EvT T K (tAnd t u) ρ b := et_and h1 fun _ => h2
theorem et_orT (h1 : EvT T K t ρ true) : EvT T K (tOr t u) ρ true := et_or (b := true) h1 fun h => by cases h
theorem et_orF (h1 : EvT T K t ρ false) (h2 : EvT T K u ρ b) : EvT T K (tOr t u) ρ b := et_or h1 fun _ => h2
variable {cl : Str → Addr} {W : WX} {s1 s2 sz : TS} {o : Out} {te : TE} {d : D}
theorem xs_ifT (h : EvT T K t ρ true) (h1 : XS T K cl W s1 ρ o) : XS T K cl W (tIfS t s1 s2) ρ o := xs_if' h (fun _ => h1) fun e => by cases e
theorem xs_ifF (h : EvT T K t ρ false) (h1 : XS T K cl W s2 ρ o) : XS T K cl W (tIfS t s1 s2) ρ o := xs_if' h (fun e => by cases e) fun _ => h1
/-- if ..: leaves; rest *)-/
theorem xs_thenL (h : EvT T K t ρ true) (l : o.leaves) (h1 : XS T K cl W s1 ρ o) : XS T K cl W (tSeq (tIfS t s1 s2) sz) ρ o := xs_seqO (xs_ifT h h1) (fun _ => rfl) fun ρ1 e => by subst e; exact l.elim
theorem xs_else (h : EvT T K t ρ false) (h1 : XS T K cl W sz ρ o) : XS T K cl W (tSeq (tIfS t s1 tNext) sz) ρ o := xs_seq (xs_ifF h xs_next) h1
theorem xs_leave (h : XS T K cl W s1 ρ o) (l : o.leaves) : XS T K cl W (tSeq s1 sz) ρ o := xs_seqO h (fun _ => rfl) fun ρ1 e => by subst e; exact l.elim
end
section
variable {T : Tbs} {K : PySem.W.Frag} {ρ : List Slot} {α : Type} {l : List α} {e : α → D} {tl te : TE} {vs : List Nat} {g : α → D} {j : Nat}
/-- [te for x in tl] -/
theorem evn_lcA (hl : EvL T K tl ρ (l.map e)) (hz : l.length ≤ 100000) (hj : j ∈ vs) (he : ∀ (i : Nat) (a : α), l[i]? = some a → Ev T K te ((wipeS ρ vs).set j (.dat (e a))) (g a)) : EvN T K (tLc (iList K tl) (gName j) tYes te vs) ρ (l.map g) :=
  (evn_lc (f := fun _ => true) hl hz hj (fun _ _ _ => et_yes) fun i a h _ => he i a h).is (by rw [List.filter_eq_self.mpr fun _ _ => rfl])
theorem evn_lcRA {ta : TA} {n : Nat} {g : Nat → D} {z : Int} (hl : EvA T K ta ρ [.int z]) (hn : z = (n : Int)) (hz : n ≤ 100000) (hj : j ∈ vs) (he : ∀ i : Nat, i < n → Ev T K te ((wipeS ρ vs).set j (.dat (.int (i : Int)))) (g i)) : EvN T K (tLc (iRng1 ta) (gName j) tYes te vs) ρ ((List.range n).map g) :=
  (evn_lcR (f := fun _ => true) hl hn hz hj (fun _ _ => et_yes) fun i h _ => he i h).is (by rw [List.filter_eq_self.mpr fun _ _ => rfl])
end
/-! ### shapes -/
structure Shp (n : Nat) (d : D) : Prop where
  l : d.canLay0 = true
  d : d.depth ≤ n
theorem Shp.ok {n : Nat} {d : D} (h : Shp n d) (hn : n ≤ 64 := by decide) : SeqAt.shaped d = true := by
  unfold SeqAt.shaped
  rw [h.l, Bool.true_and]
  exact decide_eq_true (Nat.le_trans h.d hn)
theorem Shp.mono {m n : Nat} {d : D} (h : Shp m d) (hn : m ≤ n) : Shp n d := ⟨h.l, Nat.le_trans h.d hn⟩
theorem shp_int {n : Nat} {i : Int} : Shp n (.int i) := ⟨by simp only [PyData.canLay0], by simp only [PyData.depth]; omega⟩
theorem shp_none {n : Nat} : Shp n .none := ⟨by simp only [PyData.canLay0], by simp only [PyData.depth]; omega⟩
theorem shp_bool {n : Nat} {b : Bool} : Shp n (.bool b) := ⟨by simp only [PyData.canLay0], by simp only [PyData.depth]; omega⟩
theorem shp_all {n : Nat} : ∀ {ds : List D}, (∀ d ∈ ds, Shp n d) → PyData.canLayAll0 ds = true ∧ PyData.depthAll ds ≤ n
  | [], _ => ⟨by simp only [PyData.canLayAll0], by simp only [PyData.depthAll]; omega⟩
  | d :: ds, h => by
    obtain ⟨h1, h2⟩ := shp_all fun e he => h e (List.mem_cons_of_mem _ he)
    have h3 := h d List.mem_cons_self
    refine ⟨by simp only [PyData.canLayAll0, h3.l, h1, Bool.and_self], ?_⟩
    simp only [PyData.depthAll]
    have := h3.d
    omega
theorem shp_list {n : Nat} {ds : List D} (h : ∀ d ∈ ds, Shp n d) : Shp (n + 1) (.list ds) := by
  obtain ⟨h1, h2⟩ := shp_all h
  exact ⟨by simp only [PyData.canLay0, h1], by simp only [PyData.depth]; omega⟩
theorem shp_tuple {n : Nat} {ds : List D} (h : ∀ d ∈ ds, Shp n d) : Shp (n + 1) (.tuple ds) := by
  obtain ⟨h1, h2⟩ := shp_all h
  exact ⟨by simp only [PyData.canLay0, h1], by simp only [PyData.depth]; omega⟩
theorem shp_ints {n : Nat} {ns : List Int} : Shp (n + 1) (.list (ns.map .int)) := shp_list fun d h => by
  obtain ⟨i, _, rfl⟩ := List.mem_map.mp h
  exact shp_int
theorem shp_pairD {n : Nat} {p : Int × Int} : Shp (n + 1) (pairD p) := shp_tuple fun d h => by
  simp at h
  rcases h with rfl | rfl <;> exact shp_int
theorem shp_prs {n : Nat} {l : List (Int × Int)} : Shp (n + 2) (.list (l.map pairD)) := shp_list fun d h => by
  obtain ⟨i, _, rfl⟩ := List.mem_map.mp h
  exact shp_pairD
theorem shp_str {n : Nat} {x : Str} (h : PyData.strOk x = true) : Shp n (.str x) := ⟨by simp only [PyData.canLay0, h], by simp only [PyData.depth]; omega⟩
/-! ### == -/
theorem eqv_ii {a b : Int} : PyData.eqv (.int a) (.int b) = decide (a = b) := by
  simp [PyData.eqv, Bool.beq_eq_decide_eq]
theorem eqv_self {n : Nat} {d : D} (h : Shp n d) : PyData.eqv d d = true := SeqAt.eqv_refl d h.l
theorem eqvAll_map {α β : Type} {e : α → D} {f : β → D} {r : α → β → Bool} (h : ∀ a b, PyData.eqv (e a) (f b) = r a b) : ∀ {l : List α} {m : List β}, PyData.eqvAll (l.map e) (m.map f) = (decide (l.length = m.length) && (l.zip m).all fun p => r p.1 p.2)
  | [], [] => by simp [PyData.eqvAll]
  | [], _ :: _ => by simp [PyData.eqvAll]
  | _ :: _, [] => by simp [PyData.eqvAll]
  | a :: l, b :: m => by
    simp only [List.map_cons, PyData.eqvAll, h, eqvAll_map h (l := l) (m := m), List.zip_cons_cons, List.all_cons, List.length_cons, Nat.add_right_cancel_iff]
    cases r a b <;> simp
theorem eqvAll_same {α : Type} [DecidableEq α] {e : α → D} (h : ∀ a b, PyData.eqv (e a) (e b) = decide (a = b)) : ∀ {l m : List α}, PyData.eqvAll (l.map e) (m.map e) = decide (l = m)
  | [], [] => by simp [PyData.eqvAll]
  | [], _ :: _ => by simp [PyData.eqvAll]
  | _ :: _, [] => by simp [PyData.eqvAll]
  | a :: l, b :: m => by
    simp only [List.map_cons, PyData.eqvAll, h, eqvAll_same h (l := l) (m := m), List.cons.injEq]
    by_cases h1 : a = b <;> by_cases h2 : l = m <;> simp [h1, h2]
theorem eqv_list {α : Type} [DecidableEq α] {e : α → D} (h : ∀ a b, PyData.eqv (e a) (e b) = decide (a = b)) {l m : List α} : PyData.eqv (.list (l.map e)) (.list (m.map e)) = decide (l = m) := by
  simp only [PyData.eqv]
  exact eqvAll_same h
theorem eqv_ints {l m : List Int} : PyData.eqv (.list (l.map .int)) (.list (m.map .int)) = decide (l = m) := eqv_list fun _ _ => eqv_ii
/-! ### ints -/
def isInt : D → Bool
  | .int _ => true
  | _ => false
theorem isC_int {d : D} : (isC "int" d && !isC "bool" d) = isInt d := by cases d <;> rfl
theorem isInt_inv {d : D} (h : isInt d = true) : ∃ n, d = .int n := by
  cases d <;> first | exact ⟨_, rfl⟩ | cases h
def inR (d : D) (lo hi : Int) : Bool := match d with
  | .int n => decide (lo ≤ n) && decide (n ≤ hi)
  | _ => false
theorem inR_inv {d : D} {lo hi : Int} (h : inR d lo hi = true) : ∃ n, d = .int n ∧ lo ≤ n ∧ n ≤ hi := by
  cases d <;> first | cases h | skip
  simp [inR] at h
  exact ⟨_, rfl, h⟩
theorem inR_no {d : D} {lo hi : Int} (h : isInt d = false) : inR d lo hi = false := by
  cases d <;> first | rfl | cases h
/-! ### errors -/
abbrev Er := Option (Str × List (Str × D))
def erR : Er → Res
  | none => .ok .none
  | some (c, fs) => .ex c fs
def erO (ρ : List Slot) : Er → Out
  | none => .nx ρ
  | some (c, fs) => .ex c fs ρ
theorem er_out {ρ : List Slot} {e : Er} : OutRes (erO ρ e) (erR e) := by
  cases e with
  | none => rfl
  | some p => exact ⟨rfl, rfl⟩
def bad (w : Str) : Er := some ("BadValue", [("what", .str w)])
def tooMany (n : Int) : Er := some ("TooMany", [("limit", .int n)])
theorem er_drop {ρ : List Slot} {e : Er} : (erR e).drop ρ = erO ρ e := by
  cases e <;> rfl
def Er.andThen (a b : Er) : Er := match a with
  | none => b
  | some p => some p
section
variable {T : Tbs} {K : PySem.W.Frag} {ρ : List Slot} {te : TE} {W : WX} {e e2 : Er} {s sz : TS} {c f : Str} {d : D} {t : TT} {b : Bool} {o : Out}
/-- a check, then the rest -/
theorem xs_chk (h : XS T K (He.ga K) W s ρ (erO ρ e)) (h2 : XS T K (He.ga K) W sz ρ o) (ho : ∀ p, e = some p → o = .ex p.1 p.2 ρ) : XS T K (He.ga K) W (tSeq s sz) ρ o := by
  cases e with
  | none => exact xs_seq h h2
  | some p =>
    rw [ho p rfl]
    exact xs_leave h trivial
theorem xs_chk2 (h : XS T K (He.ga K) W s ρ (erO ρ e)) (h2 : XS T K (He.ga K) W sz ρ (erO ρ e2)) : XS T K (He.ga K) W (tSeq s sz) ρ (erO ρ (e.andThen e2)) := by
  cases e with
  | none => exact xs_seq h h2
  | some p => exact xs_leave h trivial
theorem xs_need (h : EvW T K W te ρ (erR e)) : XS T K (He.ga K) W (tDrop te) ρ (erO ρ e) := (xs_dropW h).is er_drop
/-- a check, then the rest: the rest is walked if the check lets through -/
theorem xs_chkW (h : EvW T K W te ρ (erR e)) (hn : e = none → XS T K (He.ga K) W sz ρ o) (he : ∀ p, e = some p → o = .ex p.1 p.2 ρ) : XS T K (He.ga K) W (tSeq (tDrop te) sz) ρ o := by
  cases e with
  | none => exact xs_seq (xs_need h) (hn rfl)
  | some p =>
    rw [he p rfl]
    exact xs_leave (xs_need h) trivial
end
end XL
/-! XL, part k: max of a list of data, remove, reversed, list(range(n)). -/
namespace XL
open PySem L2
def rMaxD (K : PySem.W.Frag) : List V → Hp → VK → Prop := fun xs H Q => ∃ (a : Addr) (vs : List V) (d : D) (ds : List D), xs = [.ref a] ∧ SqL K H a vs ∧ DpAll K H vs (d :: ds) ∧ PyData.canLayAll0 (d :: ds) = true ∧ PySem.W.AlikeAll (d :: ds) ∧ PyData.depthAll (d :: ds) ≤ 40 ∧
  ∀ (i : Nat) (v : V), vs[i]? = some v → (d :: ds)[i]? = some (PySem.W.maxD d ds) → Q v H
theorem reads_ix {h : Heap} : ∀ {us : List Value} {ds : List D} {as : List Addr} {i : Nat} {u : Value}, ReadsAll h us ds as → us[i]? = some u → ∃ e bs, ds[i]? = some e ∧ Reads h u e bs
  | _, _, _, i, _, .nil, e => by simp at e
  | _, _, _, 0, _, .cons r rs, e => by simp at e; subst e; exact ⟨_, _, rfl, r⟩
  | _, _, _, i + 1, _, .cons r rs, e => by
    obtain ⟨d, bs, h1, h2⟩ := reads_ix (i := i) rs (by simpa using e)
    exact ⟨d, bs, by simpa using h1, h2⟩
theorem vals_ix : ∀ {vs : List V} {us : List Value} {i : Nat} {u : Value}, Vals vs us → us[i]? = some u → ∃ v, vs[i]? = some v ∧ RelV v u
  | _, _, i, _, .nil, e => by simp at e
  | _, _, 0, _, .cons r rs, e => by simp at e; subst e; exact ⟨_, rfl, r⟩
  | _, _, i + 1, _, .cons r rs, e => by
    obtain ⟨v, h1, h2⟩ := vals_ix (i := i) rs (by simpa using e)
    exact ⟨v, by simpa using h1, h2⟩
theorem canLay_mem : ∀ {ds : List D} {d : D}, PyData.canLayAll0 ds = true → d ∈ ds → d.canLay0 = true
  | [], _, _, h => by cases h
  | x :: xs, d, h, hm => by
    have h' : (x.canLay0 && PyData.canLayAll0 xs) = true := by simpa [PyData.canLayAll0] using h
    rw [Bool.and_eq_true] at h'
    rcases List.mem_cons.mp hm with rfl | hm
    · exact h'.1
    · exact canLay_mem h'.2 hm
theorem cr_maxD {X : Cx} (hc : X.calm = true) (hu : X.A.units + 64 < cLine) : CallR X (.builtin "max") (rMaxD X.K) := by
  intro pins s σ H xs us Q I r h
  obtain ⟨a, vs, d, ds, rfl, hs, hp, hcl, hal, hdp, q⟩ := h
  obtain ⟨its, rv, hl, _⟩ := I.list hs
  rw [Vals.ref1 r]
  obtain ⟨as, hr⟩ := Dp.readsAll I (d :: ds) vs its hp rv
  refine PySem.W.max_list_data (I.ok.hd hc) hl.isList hr hal (by omega) fun i v h' tk bs hv rd hk => ?_
  have hv' : its[i]? = some v := by simpa using hv
  obtain ⟨e, bs2, he, re⟩ := reads_ix hr hv'
  obtain ⟨x, hx, rx⟩ := vals_ix rv hv'
  have hcan := canLay_mem hcl (List.mem_of_getElem? he)
  have e1 : e = PySem.W.maxD d ds := SeqAt.Reads.unique e _ _ _ _ hcan (PyProof.Rows.Reads.keeps hk re) rd
  exact ⟨x, H, I.kept hk, rx, q i x hx (by rw [he, e1])⟩
def rMx3 (K : PySem.W.Frag) : List V → Hp → VK → Prop := fun xs H Q => rMaxD K xs H Q ∨ rMx K xs H Q
theorem c_max3 {X : Cx} (hc : X.calm = true) (hu : X.A.units + 64 < cLine) : CallR X (.builtin "max") (rMx3 X.K) := CallR.or (cr_maxD hc hu) (c_max hc)
/-- the greatest pair -/
def maxP (p : Int × Int) (ps : List (Int × Int)) : Int × Int := ps.foldl (fun a y => if leP y a then a else y) p
theorem maxP_ge : ∀ {ps : List (Int × Int)} {p : Int × Int}, leP p (maxP p ps) = true ∧ ∀ q ∈ ps, leP q (maxP p ps) = true
  | [], p => ⟨by have := leP_total p p; rw [Bool.or_self] at this; exact this, fun _ h => by cases h⟩
  | x :: ps, p => by
    obtain ⟨h1, h2⟩ := maxP_ge (ps := ps) (p := if leP x p then p else x)
    have ha : leP p (if leP x p then p else x) = true ∧ leP x (if leP x p then p else x) = true := by
      cases q : leP x p with
      | true =>
        rw [if_pos rfl]
        exact ⟨by have := leP_total p p; simpa using this, q⟩
      | false =>
        rw [if_neg (by decide)]
        have := leP_total p x
        rw [q, Bool.or_false] at this
        exact ⟨this, by have := leP_total x x; simpa using this⟩
    refine ⟨leP_trans _ _ _ ha.1 h1, fun q hq => ?_⟩
    rcases List.mem_cons.mp hq with rfl | hq
    · exact leP_trans _ _ _ ha.2 h1
    · exact h2 q hq
theorem maxP_mem : ∀ {ps : List (Int × Int)} {p : Int × Int}, maxP p ps ∈ p :: ps
  | [], p => List.mem_cons_self
  | x :: ps, p => by
    have h := maxP_mem (ps := ps) (p := if leP x p then p else x)
    show maxP (if leP x p then p else x) ps ∈ p :: x :: ps
    rcases List.mem_cons.mp h with h | h
    · rw [h]
      split
      · exact List.mem_cons_self
      · exact List.mem_cons_of_mem _ List.mem_cons_self
    · exact List.mem_cons_of_mem _ (List.mem_cons_of_mem _ h)
theorem dataLt_pair (p q : Int × Int) : PySem.W.dataLt (pairD p) (pairD q) = !leP q p := by
  have h := congrFun (congrFun (PySem.W.dataLe_ii (fun x : Int × Int => x.1) (fun x : Int × Int => x.2)) q) p
  have h2 : (!PySem.W.dataLt (pairD p) (pairD q)) = decide (q.1 < p.1 ∨ (q.1 = p.1 ∧ q.2 ≤ p.2)) := h
  unfold leP
  rw [← h2, Bool.not_not]
theorem maxD_pair : ∀ {ps : List (Int × Int)} {p : Int × Int}, PySem.W.maxD (pairD p) (ps.map pairD) = pairD (maxP p ps)
  | [], p => rfl
  | x :: ps, p => by
    have ih := maxD_pair (ps := ps) (p := if leP x p then p else x)
    unfold PySem.W.maxD maxP at *
    rw [List.map_cons, List.foldl_cons, List.foldl_cons, ← ih]
    congr 1
    rw [dataLt_pair]
    cases leP x p <;> rfl
section
variable {T : Tbs} {K : PySem.W.Frag}
theorem ra_maxP {p : Int × Int} {ps : List (Int × Int)} : RA1 T (rMx3 K) (pl K ((p :: ps).map pairD)) (pd K (pairD (maxP p ps))) := fun B H v w ⟨a, vs, e, h, r⟩ Q k => by
  subst e
  have sh : ∀ d ∈ (p :: ps).map pairD, Shp 1 d := fun d hd => by
    obtain ⟨x, _, rfl⟩ := List.mem_map.mp hd
    exact shp_pairD
  obtain ⟨c1, c2⟩ := shp_all sh
  refine .inl ⟨a, vs, pairD p, ps.map pairD, rfl, SqL.of h, RpAll.dp c1 (r.mono w.bh), c1, ⟨fun x hx y hy => ?_, fun x (hx : x ∈ (p :: ps).map pairD) => ?_⟩, Nat.le_trans c2 (by omega), fun i v hv hi => ?_⟩
  · have hx : x ∈ (p :: ps).map pairD := hx
    have hy : y ∈ (p :: ps).map pairD := hy
    obtain ⟨x', _, rfl⟩ := List.mem_map.mp hx
    obtain ⟨y', _, rfl⟩ := List.mem_map.mp hy
    rfl
  · obtain ⟨x', _, rfl⟩ := List.mem_map.mp hx
    intro z; cases z
  · obtain ⟨d, hd, rd⟩ := r.getV hv
    have hd' : (pairD p :: ps.map pairD)[i]? = some d := hd
    rw [hi, maxD_pair] at hd'
    cases hd'
    exact k.here w rd
theorem ra_maxL3 {ns : List Int} (h0 : 0 < ns.length) : RA1 T (rMx3 K) (pl K (ns.map .int)) (pd K (.int (maxL ns))) := fun B H v w h Q k => .inr (ra_maxL h0 B H v w h Q k)
theorem ra_max23 {i j : Int} : RA2 T (rMx3 K) (pd K (.int i)) (pd K (.int j)) (pd K (.int (if j > i then j else i))) := fun B H u v w h1 h2 Q k => .inr (ra_max2 B H u v w h1 h2 Q k)
/-- xs[::-1] -/
theorem evn_rev {ρ : List Slot} {te : TE} {ds : List D} (h : EvL T K te ρ ds) : EvN T K (tRevL K te) ρ ds.reverse := fun B0 H0 B H σ F Q k => h B0 H0 B H σ F _ fun v B1 H1 w1 l1 ⟨a, vs, e, hp, r⟩ => by
  subst e
  refine ⟨a, vs, rfl, SqL.of hp, fun p hq => (k.at l1).lay w1 hq ?_⟩
  have key : ∀ {vs : List V} {ds : List D}, RpAll K B1 vs ds → RpAll K B1 vs.reverse ds.reverse := fun {vs ds} r => by
    induction vs generalizing ds with
    | nil => cases r; exact .nil
    | cons v vs ih =>
      cases r with
      | cons h1 r1 =>
        rw [List.reverse_cons, List.reverse_cons]
        exact (ih r1).append (.cons h1 .nil)
  exact key r
/-- list(range(n)) -/
theorem evn_rng {ρ : List Slot} {te : TE} {z : Int} {n : Nat} (h : Ev T K te ρ (.int z)) (hz : z = (n : Int)) (hn : n ≤ 100000) : EvN T K (tLstRg (tRg1 te)) ρ ((List.range n).map fun i : Nat => PyData.int (i : Int)) := fun B0 H0 B H σ F Q k => h B0 H0 B H σ F _ fun v B1 H1 w1 l1 r => by
  cases r
  subst hz
  refine ⟨n, rfl, ?_, fun q hq => ?_⟩
  · unfold RgOk
    omega
  · have e : rgV 0 (n : Int) = ((List.range n).map fun i : Nat => (i : Int)).map V.int := by
      unfold rgV
      simp
    rw [e]
    refine (k.at l1).lay w1 hq ?_
    have e2 : ((List.range n).map fun i : Nat => PyData.int (i : Int)) = ((List.range n).map fun i : Nat => (i : Int)).map PyData.int := by rw [List.map_map]; rfl
    rw [e2]
    exact .ofInts _
end
section
variable {T : Tbs} {K : PySem.W.Frag} {cl : Str → Addr} {ρ : List Slot} {W W' : WX} {te : TE} {i : Nat} {ns : List Int} {k0 : Int}
/-- xs.remove(k), k in xs -/
theorem xs_rem (e : ρ[i]? = some (.own (ns.map .int))) (h : Ev T K te ρ (.int k0)) (hk : k0 ∈ ns) : XS T K cl W (tDrop (tRemX K W' (tVar i) te)) ρ (.nx (ρ.set i (.own ((ns.erase k0).map .int)))) := fun B0 H0 B H σ D F k => by
  obtain ⟨p, vs, hs, h1, r, h2, h3⟩ := F.own e
  obtain rfl := r.ints
  refine ⟨.ref p, hs, .inl ⟨rfl, _, SqL.of h1⟩, h B0 H0 B H σ F _ fun v B1 H1 w1 l1 rv => ?_⟩
  cases rv
  have h1' := l1.hh _ _ h1 (fun ps z => by cases z)
  refine ⟨p, ns, k0, rfl, rfl, h1', fun _ => ?_, fun z => absurd hk z⟩
  exact k σ B1 _ ((F.mono w1 l1).mut e hs (.ofInts _)) l1.bb
end
end XL
/-! XL, part l: max(.., key=lambda ..). -/
namespace XL
open PySem PySem.W PySem.Spec PyProof.Rows L2 LamX NdefX
/-- which of two keys is the greater -/
def gtK (ks : List D) (i j : Nat) : Bool := PySem.W.dataLt (ks.getD j .none) (ks.getD i .none)
section
variable {X : Cx} {pins : List (Addr × Obj)} {σ : L2.St} {H : Hp} {s : Shared}
theorem Inv.swap2 {p q : Addr × Obj} (I : Inv X (p :: q :: pins) σ H s) : Inv X (q :: p :: pins) σ H s := I.pins_of fun r hr => I.pin r (by
  refine List.mem_append_right _ ?_
  rcases List.mem_cons.mp hr with rfl | h
  · exact List.mem_cons_of_mem _ List.mem_cons_self
  · rcases List.mem_cons.mp h with rfl | h
    · exact List.mem_cons_self
    · exact List.mem_cons_of_mem _ (List.mem_cons_of_mem _ h))
theorem Apart.under {a b : Addr} {o : Obj} (F : Apart X pins a) (h : b ≠ a) : Apart X ((b, o) :: pins) a := ⟨F.nl, F.nf, F.sz, F.nc, fun p hp => by
  rcases List.mem_append.mp hp with z | z
  · exact F.np p (List.mem_append_left _ z)
  · rcases List.mem_cons.mp z with rfl | z
    · exact h
    · exact F.np p (List.mem_append_right _ z)⟩
/-- what stands between two turns -/
structure MxI (X : Cx) (T : Tbs) (pins : List (Addr × Obj)) (σ : L2.St) (H0 : Hp) (S It l : Addr) (xs : List V) (ks : List D) (j : Nat) (s : Shared) : Prop where
  ex : ∃ (H : Hp) (oI : Obj) (vb kb : Value) (c : Nat) (xb yk : V), Inv X ((It, oI) :: (S, seqObj "list" #[vb, kb] c) :: pins) σ H s ∧ s.heap.IsListIter It l (j + 1) ∧ Kp T H0 H ∧
    xs[argBest (gtK ks) j]? = some xb ∧ RelV xb vb ∧ RelV yk kb ∧ Dp X.K H yk (ks.getD (argBest (gtK ks) j) .none)
/-- a turn of the iterator, an item -/
theorem mx_next {T : Tbs} {H0 : Hp} {S It l : Addr} {xs : List V} {j : Nat} {oS oI : Obj} {A' : Around} {Q : Option Value → Shared → Prop} {E : Value → Shared → Prop} (hs : SqL X.K H0 l xs) (FI : Apart X pins It) (FS : Apart X pins S) (ne : S ≠ It)
    (I : Inv X ((It, oI) :: (S, oS) :: pins) σ H s) (st : s.heap.IsListIter It l j) (kp : Kp T H0 H) (hj : j < xs.length)
    (h : ∀ v x s' oI', xs[j]? = some x → RelV x v → Inv X ((It, oI') :: (S, oS) :: pins) σ H s' → s'.heap.IsListIter It l (j + 1) → Q (some v) s') : wpAny (model X.prog X.w) A' (pyNext (.ref It)) Q E s := by
  obtain ⟨its, rv, p, hz⟩ := I.list (kp.hh.sql hs)
  obtain ⟨x, hx⟩ : ∃ x, xs[j]? = some x := ⟨_, List.getElem?_eq_getElem hj⟩
  obtain ⟨u, hu, ru⟩ := rv.get hx
  obtain ⟨_, hI0, _, _, _⟩ := I.pin _ (List.mem_append_right _ List.mem_cons_self)
  refine wpAny_pyNext_list_item st p.isList (x := u) (by simpa using hu) fun h' st' sb => ?_
  have F := FI.under (o := oS) ne
  have I1 : Inv X ((S, oS) :: pins) σ H { s with heap := h' } := (Inv.unpin1 I).turned (t' := s.toks) (fun b o hb e => (sb.2 b hb).trans e) hI0 F.nl F.sz F.nc F.np
  obtain ⟨o, e, c, d⟩ := id st'
  exact h u x _ o hx ru (Inv.pin1 I1 (F.fp hI0) e (fun v z => by rw [d] at z; cases z)) st'
theorem mx_end {T : Tbs} {H0 : Hp} {S It l : Addr} {xs : List V} {j : Nat} {oS oI : Obj} {A' : Around} {Q : Option Value → Shared → Prop} {E : Value → Shared → Prop} (hh : A'.handled = none) (hs : SqL X.K H0 l xs) (FI : Apart X pins It) (FS : Apart X pins S) (ne : S ≠ It)
    (I : Inv X ((It, oI) :: (S, oS) :: pins) σ H s) (st : s.heap.IsListIter It l j) (kp : Kp T H0 H) (hj : xs.length ≤ j)
    (h : ∀ s', Inv X ((S, oS) :: pins) σ H s' → Q none s') : wpAny (model X.prog X.w) A' (pyNext (.ref It)) Q E s := by
  obtain ⟨its, rv, p, hz⟩ := I.list (kp.hh.sql hs)
  obtain ⟨_, hI0, _, _, _⟩ := I.pin _ (List.mem_append_right _ List.mem_cons_self)
  have hl := rv.length
  have F := FI.under (o := oS) ne
  refine wpAny_pyNext_list_end hh st p.isList (by simp; omega) fun h' eb => h _ ((Inv.unpin1 I).turned (t' := s.toks) (fun b o hb e => eb b o hb e) hI0 F.nl F.sz F.nc F.np)
theorem max_loopI {T : Tbs} {A : Around} {R : Result → Shared → Prop} {H0 : Hp} {S It l q : Addr} {xs : List V} {ks : List D} (hh : A.in1.handled = none) (hs : SqL X.K H0 l xs) (FI : Apart X pins It) (FS : Apart X pins S) (ne : S ≠ It) (hk : ks.length = xs.length)
    (hal : PySem.W.AllAlike ks) (hnn : ∀ d ∈ ks, d ≠ .none) (hu : ∀ d, d ∈ ks → A.in1.units + d.depth < cLine) (C : KeyCall X T A.in1 pins σ H0 (.ref q) xs ks) (kw : List (Str × Value))
    (fin : ∀ (H2 : Hp) (s' : Shared) (v : Value) (x : V), Inv X pins σ H2 s' → Kp T H0 H2 → xs[argBest (gtK ks) (xs.length - 1)]? = some x → RelV x v → R (.ok (.ret v)) s') :
    ∀ (k j : Nat) (s : Shared), xs.length - (j + 1) = k → j + 1 ≤ xs.length → MxI X T pins σ H0 S It l xs ks j s → codeAny (model X.prog X.w) A (.builtin "max.loop" ⟨[.ref It, (.ref q), .ref S], kw⟩) R s := by
  have hname : (toString "max" ++ toString ".loop" : String) = "max.loop" := by decide
  intro k
  induction k with
  | zero =>
    rintro j s hk2 hj ⟨H, oI, vb, kb, c, xb, yk, I, st, kp, hxb, rb, ryk, dk⟩
    have hin : xs.length - 1 = j := by omega
    obtain ⟨hS, hS0, _, _, _⟩ := I.pin _ (List.mem_append_right _ (List.mem_cons_of_mem _ List.mem_cons_self))
    refine codeAny_builtin F.entry_max_loop ?_
    rw [Around.under_plainId F.plain_max_loop _]
    show wpAny _ A.in1 (seqItems? (.ref S) >>= _) _ _ s
    refine wpAny_bind (wpAny_seqItems hS rfl ?_)
    show wpAny _ A.in1 (tryCatch (pyNext (.ref It)) _ >>= _) _ _ s
    refine wpAny_bind (wpAny_tryCatch (mx_end (T := T) hh hs FI FS ne I st kp (by omega) fun s' I1 => ?_))
    have hS' := (I1.pin _ (List.mem_append_right _ List.mem_cons_self)).1
    show wpAny _ A.in1 (updateSeq S (fun _ => #[]) >>= _) _ _ _
    refine wpAny_bind ?_
    have sb := Heap.SameBut.update s'.heap S (Obj.mapSeq fun _ => #[])
    refine wpAny_updateSeq hS' rfl (wpAny_bind (wpAny_letGo (wpAny_pure ?_)))
    rw [hin] at fin
    exact fin H _ vb xb ((Inv.unpin1 I1).turned (t' := s'.toks) (fun b o hb e => (sb.2 b hb).trans e) hS0 FS.nl FS.sz FS.nc FS.np) kp hxb rb
  | succ k ih =>
    rintro j s hk2 hj ⟨H, oI, vb, kb, c, xb, yk, I, st, kp, hxb, rb, ryk, dk⟩
    have hlt : j + 1 < xs.length := by omega
    obtain ⟨hS, hS0, _, _, _⟩ := I.pin _ (List.mem_append_right _ (List.mem_cons_of_mem _ List.mem_cons_self))
    refine codeAny_builtin F.entry_max_loop ?_
    rw [Around.under_plainId F.plain_max_loop _]
    show wpAny _ A.in1 (seqItems? (.ref S) >>= _) _ _ s
    refine wpAny_bind (wpAny_seqItems hS rfl ?_)
    show wpAny _ A.in1 (tryCatch (pyNext (.ref It)) _ >>= _) _ _ s
    refine wpAny_bind (wpAny_tryCatch (mx_next (T := T) hs FI FS ne I st kp hlt fun v x s' oI' hx rx I1 st1 => ?_))
    show wpAny _ A.in1 (tryCatch (holding [v] (call (.ref q) [v])) _ >>= _) _ _ _
    obtain ⟨d, hd⟩ : ∃ d, ks[j + 1]? = some d := ⟨_, List.getElem?_eq_getElem (by omega)⟩
    refine wpAny_bind (wpAny_tryCatch (wpAny_holding (wpAny_mono (C (j + 1) x d v [(It, oI'), (S, seqObj "list" #[vb, kb] c)] H s' hx hd rx I1 kp) (fun kx s2 he => ?_) fun _ _ hF => hF.elim)))
    obtain ⟨y, H3, I3, ryv, kp3, dy⟩ := he
    have I3' : Inv X ((It, oI') :: (S, seqObj "list" #[vb, kb] c) :: pins) σ H3 s2 := I3
    obtain ⟨hI2, hI20, _, _, _⟩ := I3'.pin _ (List.mem_append_right _ List.mem_cons_self)
    obtain ⟨hS2, hS20, _, _, _⟩ := I3'.pin _ (List.mem_append_right _ (List.mem_cons_of_mem _ List.mem_cons_self))
    have st2 : s2.heap.IsListIter It l (j + 2) := by
      obtain ⟨o, e, c1, d1⟩ := st1
      have : o = oI' := Option.some.inj (e.symm.trans (I1.pin _ (List.mem_append_right _ List.mem_cons_self)).1)
      subst this
      exact ⟨o, hI2, c1, d1⟩
    have dk3 := Dp.ext kp3.hh dk
    obtain ⟨as1, r1⟩ := Dp.reads I3' _ _ _ dy ryv
    obtain ⟨as2, r2⟩ := Dp.reads I3' _ _ _ dk3 ryk
    have hb : argBest (gtK ks) j < ks.length := by
      have := (List.getElem?_eq_some_iff.mp hxb).1
      omega
    have hdb : ks.getD (argBest (gtK ks) j) .none ∈ ks := by
      rw [List.getD_eq_getElem?_getD, List.getElem?_eq_getElem hb]
      exact List.getElem_mem hb
    have hdm : d ∈ ks := List.mem_of_getElem? hd
    have ed : ks.getD (j + 1) .none = d := by rw [List.getD_eq_getElem?_getD, hd]; rfl
    show wpAny _ A.in1 (tryCatch (holding [v, kx] (richCompare .Gt kx kb >>= _)) _ >>= _) _ _ _
    refine wpAny_bind (wpAny_tryCatch (wpAny_holding (wpAny_bind (rcGt_alike _ _ A.in1 s2 kx kb _ _ r1 r2 (hal _ hdm _ hdb) (hnn _ hdm) (by have h1 := hu _ hdm; have := Nat.min_le_left d.depth (ks.getD (argBest (gtK ks) j) .none).depth; omega) X.prog X.w _ _ ?_))))
    refine wpAny_bind (wpAny_holding (wpAny_truthy_bool ?_))
    refine wpAny_bind (wpAny_letGo (wpAny_pure ?_))
    have eb : gtK ks (j + 1) (argBest (gtK ks) j) = PySem.W.dataLt (ks.getD (argBest (gtK ks) j) .none) d := by
      unfold gtK
      rw [ed]
    cases hb2 : PySem.W.dataLt (ks.getD (argBest (gtK ks) j) .none) d with
    | true =>
      simp only [if_true]
      refine wpAny_bind ?_
      have sb := Heap.SameBut.update s2.heap S (Obj.mapSeq fun _ => #[v, kx])
      refine wpAny_updateSeq hS2 rfl (wpAny_bind (wpAny_letGo ?_))
      rw [hname]
      obtain ⟨c2, hc2⟩ : ∃ c2, (s2.heap.update S (Obj.mapSeq fun _ => #[v, kx])).get? S = some (seqObj "list" #[v, kx] c2) := ⟨_, get?_update_seq hS2 fun _ => #[v, kx]⟩
      have FS2 := FS.under (o := oI') ne.symm
      have I4 : Inv X ((It, oI') :: pins) σ H3 { s2 with heap := s2.heap.update S (Obj.mapSeq fun _ => #[v, kx]) } := (Inv.unpin1 (Inv.swap2 I3')).turned (t' := s2.toks) (fun b o hb e => (sb.2 b hb).trans e) hS20 FS2.nl FS2.sz FS2.nc FS2.np
      have I5 := Inv.swap2 (Inv.pin1 I4 (FS2.fp hS20) hc2 (fun v z => by cases z))
      have ea : argBest (gtK ks) (j + 1) = j + 1 := by simp only [argBest, eb, hb2, if_true]
      refine wpAny_pure ⟨plainId_quiet F.plain_max_loop _, ih (j + 1) _ (by omega) hlt ⟨H3, oI', v, kx, c2, x, y, I5, ?_, kp.trans kp3, by rw [ea]; exact hx, rx, ryv, by rw [ea, ed]; exact dy⟩⟩
      obtain ⟨o, e, c1, d1⟩ := st2
      exact ⟨o, (sb.2 It ne.symm).trans e, c1, d1⟩
    | false =>
      simp only [Bool.false_eq_true, if_false]
      refine wpAny_bind (wpAny_letGo ?_)
      rw [hname]
      have ea : argBest (gtK ks) (j + 1) = argBest (gtK ks) j := by simp only [argBest, eb, hb2, Bool.false_eq_true, if_false]
      exact wpAny_pure ⟨plainId_quiet F.plain_max_loop _, ih (j + 1) _ (by omega) hlt ⟨H3, oI', vb, kb, c, xb, yk, I3', st2, kp.trans kp3, by rw [ea]; exact hxb, rb, ryk, by rw [ea]; exact dk3⟩⟩
/-- the first turn, and all -/
theorem max_keyI {T : Tbs} {A : Around} {H0 : Hp} {E : Value → Shared → Prop} {Q : VK} {l q : Addr} {xs : List V} {ks : List D} (hh : A.in1.handled = none) (I : Inv X pins σ H0 s) (hs : SqL X.K H0 l xs) (hk : ks.length = xs.length) (h0 : 0 < xs.length)
    (hal : PySem.W.AllAlike ks) (hnn : ∀ d ∈ ks, d ≠ .none) (hu : ∀ d, d ∈ ks → A.in1.units + d.depth < cLine) (C : KeyCall X T A.in1 pins σ H0 (.ref q) xs ks)
    (fin : ∀ (H2 : Hp) (x : V), Kp T H0 H2 → xs[argBest (gtK ks) (xs.length - 1)]? = some x → Q x H2) :
    wpAny (model X.prog X.w) A (call (.builtin "max") [.ref l] [(Str.ofString "key", .ref q)]) (EP X pins σ Q) E s := by
  have hname : (toString "max" ++ toString ".loop" : String) = "max.loop" := by decide
  refine PyProof.Rows.kmk_tree F.kind_max F.plain_max F.entry_max (PyProof.Rows.kmk_max_key _ _) ?_
  show wpAny _ A.in1 (Builtin.Builtins.bindParams "max" ["key", "default"] 0 ⟨[], [(Str.ofString "key", .ref q)]⟩ >>= _) _ _ s
  refine wpAny_bind (wpAny_of_eq (show Builtin.Builtins.bindParams "max" ["key", "default"] 0 ⟨[], [(Str.ofString "key", .ref q)]⟩ = pure [some (.ref q), none] from rfl) ?_)
  refine wpAny_bind (wpAny_pure ?_)
  obtain ⟨its, rv, p, hz⟩ := I.list hs
  refine wpAny_bind (wpAny_pyIter_list p.isList ?_)
  -- the iterator
  have I1 : Inv X pins σ H0 { s with heap := s.heap.push { cls := .type "list_iterator", data := .fields #[.ref l, .int 0 0] } } := I.kept (t' := s.toks) fun b o e => Heap.get?_push_of_some _ e
  have nI : H0 s.heap.objs.size = none := I.hok.fresh (Nat.le_refl _)
  have FI := I.fpOk (Nat.le_refl s.heap.objs.size) nI
  refine wpAny_bind (wpAny_newObj_type ?_)
  have I2 : Inv X pins σ H0 { s with heap := (s.heap.push { cls := .type "list_iterator", data := .fields #[.ref l, .int 0 0] }).push { cls := .type "list", data := .seq #[] 0 } } := I1.kept (t' := s.toks) fun b o e => Heap.get?_push_of_some _ e
  have nS : H0 (s.heap.push { cls := .type "list_iterator", data := .fields #[.ref l, .int 0 0] }).objs.size = none := I1.hok.fresh (Nat.le_refl _)
  have FS := I1.fpOk (Nat.le_refl _) nS
  have hS : ((s.heap.push { cls := .type "list_iterator", data := .fields #[.ref l, .int 0 0] }).push { cls := .type "list", data := .seq #[] 0 }).get? (s.heap.push { cls := .type "list_iterator", data := .fields #[.ref l, .int 0 0] }).objs.size = some (seqObj "list" #[] 0) := Heap.get?_push_size _ rfl
  have hI : ((s.heap.push { cls := .type "list_iterator", data := .fields #[.ref l, .int 0 0] }).push { cls := .type "list", data := .seq #[] 0 }).get? s.heap.objs.size = some { cls := .type "list_iterator", data := .fields #[.ref l, .int 0 0] } := Heap.get?_push_of_some _ (Heap.get?_push_size _ rfl)
  generalize hS0 : (s.heap.push { cls := .type "list_iterator", data := .fields #[.ref l, .int 0 0] }).objs.size = S at *
  have ne : S ≠ s.heap.objs.size := by rw [← hS0, Heap.size_push]; omega
  have aI := Apart.of FI
  have aS := Apart.of FS
  have I3 : Inv X ((s.heap.objs.size, { cls := .type "list_iterator", data := .fields #[.ref l, .int 0 0] }) :: (S, seqObj "list" #[] 0) :: pins) σ H0 { s with heap := (s.heap.push { cls := .type "list_iterator", data := .fields #[.ref l, .int 0 0] }).push { cls := .type "list", data := .seq #[] 0 } } :=
    Inv.pin1 (Inv.pin1 I2 FS hS (fun v z => by cases z)) ((aI.under ne).fp nI) hI (fun v z => by cases z)
  rw [hname]
  refine wpAny_pure ⟨plainId_quiet F.plain_max_loop _, ?_⟩
  refine codeAny_builtin F.entry_max_loop ?_
  rw [Around.under_plainId F.plain_max_loop _]
  show wpAny _ A.in1 (seqItems? (.ref S) >>= _) _ _ _
  refine wpAny_bind (wpAny_seqItems hS rfl ?_)
  show wpAny _ A.in1 (tryCatch (pyNext (.ref s.heap.objs.size)) _ >>= _) _ _ _
  refine wpAny_bind (wpAny_tryCatch (mx_next (T := T) hs aI aS ne I3 ⟨_, hI, rfl, rfl⟩ (Kp.refl T H0) h0 fun v x s' oI' hx rx I4 st1 => ?_))
  show wpAny _ A.in1 (tryCatch (holding [v] (call (.ref q) [v])) _ >>= _) _ _ _
  obtain ⟨d, hd⟩ : ∃ d, ks[0]? = some d := ⟨_, List.getElem?_eq_getElem (by omega)⟩
  refine wpAny_bind (wpAny_tryCatch (wpAny_holding (wpAny_mono (C 0 x d v [(s.heap.objs.size, oI'), (S, seqObj "list" #[] 0)] H0 s' hx hd rx I4 (Kp.refl T H0)) (fun kx s2 he => ?_) fun _ _ hF => hF.elim)))
  obtain ⟨y, H3, I5, ryv, kp3, dy⟩ := he
  have I5' : Inv X ((s.heap.objs.size, oI') :: (S, seqObj "list" #[] 0) :: pins) σ H3 s2 := I5
  obtain ⟨hI2, _, _, _, _⟩ := I5'.pin _ (List.mem_append_right _ List.mem_cons_self)
  obtain ⟨hS2, hS20, _, _, _⟩ := I5'.pin _ (List.mem_append_right _ (List.mem_cons_of_mem _ List.mem_cons_self))
  show wpAny _ A.in1 (updateSeq S (fun _ => #[v, kx]) >>= _) _ _ _
  refine wpAny_bind ?_
  have sb := Heap.SameBut.update s2.heap S (Obj.mapSeq fun _ => #[v, kx])
  refine wpAny_updateSeq hS2 rfl ?_
  rw [hname]
  obtain ⟨c2, hc2⟩ : ∃ c2, (s2.heap.update S (Obj.mapSeq fun _ => #[v, kx])).get? S = some (seqObj "list" #[v, kx] c2) := ⟨_, get?_update_seq hS2 fun _ => #[v, kx]⟩
  have FS2 := aS.under (o := oI') ne.symm
  have I6 : Inv X ((s.heap.objs.size, oI') :: pins) σ H3 { s2 with heap := s2.heap.update S (Obj.mapSeq fun _ => #[v, kx]) } := (Inv.unpin1 (Inv.swap2 I5')).turned (t' := s2.toks) (fun b o hb e => (sb.2 b hb).trans e) hS20 FS2.nl FS2.sz FS2.nc FS2.np
  have I7 := Inv.swap2 (Inv.pin1 I6 (FS2.fp hS20) hc2 (fun v z => by cases z))
  have ed : ks.getD 0 .none = d := by rw [List.getD_eq_getElem?_getD, hd]; rfl
  refine wpAny_pure ⟨plainId_quiet F.plain_max_loop _, max_loopI (T := T) (H0 := H0) hh hs aI aS ne hk hal hnn hu C _ (fun H2 s' v' x' I' kp' hx' rx' => ⟨x', H2, I', rx', fin H2 x' kp' hx'⟩) _ 0 _ rfl h0 ⟨H3, oI', v, kx, c2, x, y, I7, ?_, kp3, hx, rx, ryv, by show Dp X.K H3 y (ks.getD 0 .none); rw [ed]; exact dy⟩⟩
  obtain ⟨o, e, c1, d1⟩ := st1
  have : o = oI' := Option.some.inj (e.symm.trans (I4.pin _ (List.mem_append_right _ List.mem_cons_self)).1)
  subst this
  exact ⟨o, (sb.2 _ ne.symm).trans hI2, c1, d1⟩
end
end XL
/-! XL, part m: the rule for max(.., key=lambda ..). -/
namespace XL
open PySem PySem.W PySem.Spec PyProof.Rows L2 LamX NdefX
def tMaxK (T : Tbs) (K : PySem.W.Frag) (te : TE) (N : List Str) (js : List Nat) (tb : TE) : TE := fun σ H Q => te σ H fun u H1 => Tabs T H1 ∧ ∃ (l : Addr) (xs : List V) (ks : List D), u = .ref l ∧ SqL K H1 l xs ∧ 0 < xs.length ∧ ks.length = xs.length ∧
  AllAlike ks ∧ (∀ d ∈ ks, d ≠ .none) ∧ (∀ d ∈ ks, d.depth ≤ 60) ∧
  (∀ (i : Nat) (x : V) (d : D), xs[i]? = some x → ks[i]? = some d → ∀ H2, Kp T H1 H2 → tb (startF N [x] (js.map (slotAt σ))) H2 fun v H3 => Kp T H2 H3 ∧ Dp K H3 v d) ∧
  ∀ (H2 : Hp) (x : V), Kp T H1 H2 → xs[argBest (gtK ks) (xs.length - 1)]? = some x → Q x H2
theorem pe_maxk {X : Cx} {T : Tbs} {c P : Addr} {k : Nat} {e : Expr} {te : TE} {params : Arguments} {body : Expr} {scope : Scope} {lpos kpos pos p : Pos} {N : List Str} {x : Str} {fr : List Str} {js : List Nat} {tb : TE}
    (hg : Gl X "max") (hm : X.mg "max" = none) (hv : bootBuiltins "max" = some (.builtin "max")) (he : PE X e te) (TB : TabB X.base X.mg c P) (hcode : X.env.code = .ref c)
    (hmT : (P, X.env.qual ++ "<lambda>") ∈ T) (hu : ∀ p ∈ T, p.1 = P → p.2 = X.env.qual ++ "<lambda>") (hr : Room (k + 2) X.A) (hdef : defaultsOf params X.env = ([], []))
    (S : NScope N [x] fr scope) (hfree : ∀ y ∈ scope.names, y.2 = .free → X.env.scope.names.lookup y.1 = some .cell ∨ X.env.scope.names.lookup y.1 = some .free) (hfr : ∀ y ∈ fr, (y, NameKind.free) ∈ scope.names) (hjs : js.map (fun j => X.N[j]?) = fr.map some)
    (hbind : ∀ (q : Str) (cl : List (Str × Addr)) (pm cv ctv u : Value), bindArgs (kla_fn "<lambda>" q params body scope cl pm cv ctv) ⟨[u], []⟩ = pure [(x, u)])
    (hbody : ∀ (A : Around) (outer : List Env) (s : Shared) (H : Hp) (f c' : Addr), Room k (A.deeper (envF ⟨"<lambda>", X.env.qual ++ "<lambda>", params, [], scope, cloFrom X.env.cells scope.names [], c'⟩ f s.heap.objs.size)) →
      PE (ncx C8.CX0 X.prog X.w X.K X.mg X.base N ⟨"<lambda>", X.env.qual ++ "<lambda>", params, [], scope, cloFrom X.env.cells scope.names [], c'⟩ f A outer s H C8.E0) body tb)
    (hs : backTo pos (starEach [e] X.env) = (false, eval e X.env) :: backTo pos (starEach [] X.env) := by rfl) (hs' : starEach [e] X.env = (false, eval e X.env) :: starEach [] X.env := by rfl) (hpl : (backTo pos (starEach [e] X.env)).any (·.1) = false := by rfl) :
    PE X (.Call (.Name "max" p) [e] [⟨some "key", .Lambda params body scope lpos, kpos⟩] pos) (tMaxK T X.K te N js tb) := by
  refine ⟨fun pins s σ H Q I h => ?_⟩
  have hfr2 : ∀ y ∈ scope.names, y.2 = .free → ∃ c, X.env.cells.lookup y.1 = some c := fun y hy e => (hfree y hy e).elim (fun z => I.ok.has _ (.inl z)) fun z => I.ok.has _ (.inr z)
  refine wpAny_Call_Name_kw (ld_blt I hg hm hv ?_ (by decide) (by decide))
  refine PyProof.Rows.callWith_kw ?_ hs hpl rfl rfl
  rw [hs']
  show wpAny _ _ (spliced ((false, eval e X.env) :: backTo pos (starEach [] X.env))) _ _ s
  refine Calls.spliced_cons (thn (he.run pins s σ H _ I h) fun u s1 ⟨u', H1, I1, ru, hT, l, xs, ks, eu, hsq, h0, hk, hal, hnn, hdp, turn, fin⟩ => Calls.spliced_nil ?_)
  subst eu
  obtain rfl : u = Value.ref l := ru
  show wpAny _ _ (evalAll [(do let v ← eval (.Lambda params body scope lpos) X.env; standAt pos; pure v)]) _ _ s1
  refine wpAny_evalAll_cons (wpAny_bind (lam_new I1 TB hcode hmT hu hT hdef hfr2 fun f c' pm ctv H2 s2 I2 kp2 hT2 hc2 => wpAny_bind (wpAny_standAt (wpAny_pure (wpAny_evalAll_nil ?_)))))
  show wpAny (model X.prog X.w) X.A (call (.builtin "max") [.ref l] [(Str.ofString "key", .ref f)]) _ _ s2
  have hrI : Room (k + 1) X.A.in1 := ⟨hr.hd, by have := hr.dp; show X.A.depth + 3 * (k + 1) + 5 < _; omega, by have := hr.un; show X.A.units + 1 + 16 * (k + 1) + 200 < _; omega⟩
  refine wpAny_mono (max_keyI (T := T) (H0 := H2) (A := X.A) (E := X.xe) (Q := Q) (q := f) (xs := xs) (ks := ks) hr.hd I2 (kp2.hh.sql hsq) hk h0 hal hnn (fun d hd => ?_) (fun i x' d u' pn' H3 s3 hx hd ru I3 kp3 => ?_) fun H3 x' kp3 hx' => fin H3 x' (kp2.trans kp3) hx') (fun v s3 hq => ?_) fun _ _ e => e
  · have h1 := hdp d hd
    have h2 := hr.un
    show X.A.units + 1 + d.depth < _
    omega
  · have hf := (I3.pin _ (List.mem_append_right _ (List.mem_append_right _ List.mem_cons_self))).1
    have hc3 : H3 c' = some (CodeO c' (X.env.qual ++ "<lambda>")) := kp3.hh _ _ hc2 codeO_ne
    have caps := Caps.made (fr := fr) (js := js) I3.ok hfree hfr hjs
    have e0 := I3.env0.in1
    refine wpAny_call (codeAny_mono (lam_call (vs := [x']) (us := [u']) I3 e0 hrI S hf hc3 (cells_of I3 caps) (hbind _ _ _ _ _ _) (.cons ru .nil) rfl (fun A outer s H hr' => hbody A outer s H f c' hr') (turn i x' d hx hd H3 (kp2.trans kp3))) fun r s4 hq => ?_)
    cases r with
    | error e => exact (show False from hq).elim
    | ok fl =>
      cases fl with
      | ret v =>
        obtain ⟨y, H4, I4, ry, kp4, dy⟩ := I3.after hq
        exact ⟨y, H4, I4, ry, kp4, dy⟩
      | next => exact False.elim hq
      | brk => exact False.elim hq
      | cont => exact False.elim hq
  · obtain ⟨y, H4, I4, ry, q⟩ := hq
    exact ⟨y, H4, (Inv.pins_of I4 fun p hp => I4.pin p (List.mem_append_right _ (List.mem_cons_of_mem _ hp))), ry, q⟩
theorem tabs_in {T : Tbs} {cs : List (Addr × Addr)} {H : Hp} (hT : ∀ t ∈ T, ∃ p ∈ cs, p.2 = t.1) (h : ∀ p ∈ cs, H p.2 = some (.tbl #[])) : LamX.Tabs T H := fun t ht => by
  obtain ⟨p, hp, e⟩ := hT t ht
  exact ⟨#[], by rw [← e]; exact h p hp, by simp [TriplesOk], fun pos cv e => by simp [codeAmong] at e⟩
/-! ### by data, keys that are pairs of ints -/
def bestBy {α : Type} (key : α → Int × Int) (l : List α) : Option α := l[argBest (gtK (l.map fun a => pairD (key a))) (l.length - 1)]?
theorem bestBy_spec {α : Type} {key : α → Int × Int} {l : List α} (h0 : 0 < l.length) : ∃ a, bestBy key l = some a ∧ a ∈ l ∧ ∀ b ∈ l, leP (key b) (key a) = true := by
  have gt : ∀ {i j : Nat} {a b : α}, l[i]? = some a → l[j]? = some b → gtK (l.map fun a => pairD (key a)) i j = !leP (key a) (key b) := fun {i j a b} hi hj => by
    unfold gtK
    rw [List.getD_eq_getElem?_getD, List.getD_eq_getElem?_getD, List.getElem?_map, List.getElem?_map, hi, hj]
    show PySem.W.dataLt (pairD (key b)) (pairD (key a)) = _
    rw [dataLt_pair]
  have key1 : ∀ m, m < l.length → ∃ a, l[argBest (gtK (l.map fun a => pairD (key a))) m]? = some a ∧ ∀ i b, i ≤ m → l[i]? = some b → leP (key b) (key a) = true := fun m => by
    induction m with
    | zero =>
      intro hm
      obtain ⟨a, ha⟩ : ∃ a, l[0]? = some a := ⟨_, List.getElem?_eq_getElem hm⟩
      refine ⟨a, ha, fun i b hi hb => ?_⟩
      obtain rfl : i = 0 := by omega
      rw [ha] at hb
      cases hb
      have := leP_total (key a) (key a)
      rw [Bool.or_self] at this
      exact this
    | succ m ih =>
      intro hm
      obtain ⟨a, ha, hle⟩ := ih (by omega)
      obtain ⟨c, hc⟩ : ∃ c, l[m + 1]? = some c := ⟨_, List.getElem?_eq_getElem hm⟩
      have g := gt hc ha
      cases q : leP (key c) (key a) with
      | true =>
        rw [q] at g
        refine ⟨a, ?_, fun i b hi hb => ?_⟩
        · simp only [argBest, g, Bool.not_true, Bool.false_eq_true, if_false]
          exact ha
        · rcases Nat.lt_or_ge i (m + 1) with h | h
          · exact hle i b (by omega) hb
          · obtain rfl : i = m + 1 := by omega
            rw [hc] at hb
            cases hb
            exact q
      | false =>
        rw [q] at g
        have t := leP_total (key c) (key a)
        rw [q, Bool.false_or] at t
        refine ⟨c, ?_, fun i b hi hb => ?_⟩
        · simp only [argBest, g, Bool.not_false, if_true]
          exact hc
        · rcases Nat.lt_or_ge i (m + 1) with h | h
          · exact leP_trans _ _ _ (hle i b (by omega) hb) t
          · obtain rfl : i = m + 1 := by omega
            rw [hc] at hb
            cases hb
            have := leP_total (key c) (key c)
            rw [Bool.or_self] at this
            exact this
  obtain ⟨a, ha, hle⟩ := key1 (l.length - 1) (by omega)
  refine ⟨a, ha, List.mem_of_getElem? ha, fun b hb => ?_⟩
  obtain ⟨i, hi, e⟩ := List.mem_iff_getElem.mp hb
  exact hle i b (by omega) (by rw [List.getElem?_eq_getElem hi, e])
section
variable {T : Tbs} {K : PySem.W.Frag} {ρ : List Slot} {te : TE}
theorem ev_maxk {α : Type} {l : List α} {e : α → D} {key : α → Int × Int} {N : List Str} {js : List Nat} {tb : TE} {a : α} (hs : EvL T K te ρ (l.map e)) (h0 : 0 < l.length) (hN : N.length = js.length + 1) (ho : noOwn (capS ρ js) = true)
    (hb : ∀ a ∈ l, Ev T K tb (.dat (e a) :: capS ρ js) (pairD (key a))) (ha : bestBy key l = some a) : Ev T K (tMaxK T K te N js tb) ρ (e a) := fun B0 H0 B H σ F Q k =>
  hs B0 H0 B H σ F _ fun v B1 H1 w1 l1 ⟨p, vs, ev, hp, r⟩ => by
    have hl : vs.length = l.length := by rw [r.len, List.length_map]
    refine ⟨w1.tb, p, vs, l.map fun a => pairD (key a), ev, SqL.of hp, by omega, by rw [List.length_map, hl], ?_, ?_, ?_, fun i x d hx hd H2 kp => ?_, fun H2 x kp hx => ?_⟩
    · intro d hd d' hd'
      obtain ⟨a, _, rfl⟩ := List.mem_map.mp hd
      obtain ⟨b, _, rfl⟩ := List.mem_map.mp hd'
      rfl
    · intro d hd
      obtain ⟨a, _, rfl⟩ := List.mem_map.mp hd
      intro z; cases z
    · intro d hd
      obtain ⟨a, _, rfl⟩ := List.mem_map.mp hd
      exact Nat.le_trans (shp_pairD (n := 0)).d (by omega)
    · rw [List.getElem?_map] at hd
      cases q : l[i]? with
      | none => rw [q] at hd; cases hd
      | some a =>
        rw [q] at hd
        have hd' : some (pairD (key a)) = some d := hd
        cases hd'
        have hm : a ∈ l := List.mem_of_getElem? q
        obtain ⟨d', hd2, rx⟩ := r.getV hx
        rw [List.getElem?_map, q] at hd2
        have hd3 : some (e a) = some d' := hd2
        cases hd3
        refine hb a hm _ _ _ _ _ (fm_lam (F.mono w1 l1) hN ho kp rx) _ fun v B3 H3 w3 l3 rv => ⟨⟨l3.hh, l3.nn, fun _ => w3.tb⟩, w3.dp rv (shp_pairD (n := 0)).ok⟩
    · have w3 : Wf T B1 H2 := ⟨w1.bh.trans kp.hh, fun a h => w1.bn a (kp.nn a h), kp.tb w1.tb⟩
      have l3 : Le B1 H1 B1 H2 := ⟨LamX.ExtN.refl _, kp.hh, kp.nn, fun a h h' => absurd h h'⟩
      unfold bestBy at ha
      rw [← hl] at ha
      obtain ⟨d, hd, rd⟩ := r.getV hx
      rw [List.getElem?_map, ha] at hd
      have hd' : some (e a) = some d := hd
      cases hd'
      exact k _ _ _ w3 (l1.trans l3) rd
end
end XL
namespace K25
open PySem L2
def top (i : Nat) : Stmt := PySem.Challenge.pw_parcelbank_k25_bookings_taken_in_turn.main.body.getD i (.Pass ⟨0, 0, 0, 0⟩)
abbrev s_is_integer : Stmt := top 5
def d_is_integer : He.DefD := ⟨("is_integer", none), "is_integer", "is_integer", defArgs s_is_integer, defBody s_is_integer, defScope s_is_integer, [], []⟩
abbrev s_in_range : Stmt := top 6
def d_in_range : He.DefD := ⟨("in_range", none), "in_range", "in_range", defArgs s_in_range, defBody s_in_range, defScope s_in_range, [], []⟩
abbrev s_is_ascending : Stmt := top 7
def d_is_ascending : He.DefD := ⟨("is_ascending", none), "is_ascending", "is_ascending", defArgs s_is_ascending, defBody s_is_ascending, defScope s_is_ascending, [], []⟩
abbrev s_need_range : Stmt := top 8
def d_need_range : He.DefD := ⟨("need_range", none), "need_range", "need_range", defArgs s_need_range, defBody s_need_range, defScope s_need_range, [], []⟩
abbrev s_need_list : Stmt := top 9
def d_need_list : He.DefD := ⟨("need_list", none), "need_list", "need_list", defArgs s_need_list, defBody s_need_list, defScope s_need_list, [], []⟩
abbrev s_is_time : Stmt := top 12
def d_is_time : He.DefD := ⟨("is_time", none), "is_time", "is_time", defArgs s_is_time, defBody s_is_time, defScope s_is_time, [], []⟩
abbrev s_is_stay : Stmt := top 15
def d_is_stay : He.DefD := ⟨("is_stay", none), "is_stay", "is_stay", defArgs s_is_stay, defBody s_is_stay, defScope s_is_stay, [], []⟩
abbrev s_need_stay : Stmt := top 16
def d_need_stay : He.DefD := ⟨("need_stay", none), "need_stay", "need_stay", defArgs s_need_stay, defBody s_need_stay, defScope s_need_stay, [], []⟩
abbrev s_need_stays : Stmt := top 17
def d_need_stays : He.DefD := ⟨("need_stays", none), "need_stays", "need_stays", defArgs s_need_stays, defBody s_need_stays, defScope s_need_stays, [], []⟩
abbrev s_has_moment : Stmt := top 18
def d_has_moment : He.DefD := ⟨("has_moment", none), "has_moment", "has_moment", defArgs s_has_moment, defBody s_has_moment, defScope s_has_moment, [], []⟩
abbrev s_need_shared : Stmt := top 21
def d_need_shared : He.DefD := ⟨("need_shared", none), "need_shared", "need_shared", defArgs s_need_shared, defBody s_need_shared, defScope s_need_shared, [], []⟩
abbrev s_stay_order : Stmt := top 22
def d_stay_order : He.DefD := ⟨("stay_order", none), "stay_order", "stay_order", defArgs s_stay_order, defBody s_stay_order, defScope s_stay_order, [], []⟩
abbrev s_accepted : Stmt := top 24
def d_accepted : He.DefD := ⟨("accepted", none), "accepted", "accepted", defArgs s_accepted, defBody s_accepted, defScope s_accepted, [], []⟩
abbrev s_most_bookings : Stmt := top 25
def d_most_bookings : He.DefD := ⟨("most_bookings", none), "most_bookings", "most_bookings", defArgs s_most_bookings, defBody s_most_bookings, defScope s_most_bookings, [], []⟩
abbrev s_is_accepted : Stmt := top 26
def d_is_accepted : He.DefD := ⟨("is_accepted", none), "is_accepted", "is_accepted", defArgs s_is_accepted, defBody s_is_accepted, defScope s_is_accepted, [], []⟩
abbrev s__law_cell : Stmt := top 28
def d__law_cell : He.DefD := ⟨("_law_cell", none), "_law_cell", "_law_cell", defArgs s__law_cell, defBody s__law_cell, defScope s__law_cell, [], []⟩
abbrev s__law_row : Stmt := top 29
def d__law_row : He.DefD := ⟨("_law_row", none), "_law_row", "_law_row", defArgs s__law_row, defBody s__law_row, defScope s__law_row, [], []⟩
abbrev s__law_stays : Stmt := top 30
def d__law_stays : He.DefD := ⟨("_law_stays", none), "_law_stays", "_law_stays", defArgs s__law_stays, defBody s__law_stays, defScope s__law_stays, [], []⟩
abbrev s__law_whole : Stmt := top 31
def d__law_whole : He.DefD := ⟨("_law_whole", none), "_law_whole", "_law_whole", defArgs s__law_whole, defBody s__law_whole, defScope s__law_whole, [], []⟩
abbrev s__law_holds : Stmt := top 32
def d__law_holds : He.DefD := ⟨("_law_holds", none), "_law_holds", "_law_holds", defArgs s__law_holds, defBody s__law_holds, defScope s__law_holds, [], []⟩
abbrev s__law_load : Stmt := top 33
def d__law_load : He.DefD := ⟨("_law_load", none), "_law_load", "_law_load", defArgs s__law_load, defBody s__law_load, defScope s__law_load, [], []⟩
abbrev s__law_members : Stmt := top 34
def d__law_members : He.DefD := ⟨("_law_members", none), "_law_members", "_law_members", defArgs s__law_members, defBody s__law_members, defScope s__law_members, [], []⟩
abbrev s__law_booked : Stmt := top 35
def d__law_booked : He.DefD := ⟨("_law_booked", none), "_law_booked", "_law_booked", defArgs s__law_booked, defBody s__law_booked, defScope s__law_booked, [], []⟩
abbrev s__law_is_accepted : Stmt := top 36
def d__law_is_accepted : He.DefD := ⟨("_law_is_accepted", none), "_law_is_accepted", "_law_is_accepted", defArgs s__law_is_accepted, defBody s__law_is_accepted, defScope s__law_is_accepted, [], []⟩
abbrev s__law_bits : Stmt := top 37
def d__law_bits : He.DefD := ⟨("_law_bits", none), "_law_bits", "_law_bits", defArgs s__law_bits, defBody s__law_bits, defScope s__law_bits, [], []⟩
abbrev s__law_papers : Stmt := top 38
def d__law_papers : He.DefD := ⟨("_law_papers", none), "_law_papers", "_law_papers", defArgs s__law_papers, defBody s__law_papers, defScope s__law_papers, [], []⟩
abbrev s__law_subsets : Stmt := top 39
def d__law_subsets : He.DefD := ⟨("_law_subsets", none), "_law_subsets", "_law_subsets", defArgs s__law_subsets, defBody s__law_subsets, defScope s__law_subsets, [], []⟩
abbrev s__law_bad_stays : Stmt := top 40
def d__law_bad_stays : He.DefD := ⟨("_law_bad_stays", none), "_law_bad_stays", "_law_bad_stays", defArgs s__law_bad_stays, defBody s__law_bad_stays, defScope s__law_bad_stays, [], []⟩
abbrev s__law_said : Stmt := top 41
def d__law_said : He.DefD := ⟨("_law_said", none), "_law_said", "_law_said", defArgs s__law_said, defBody s__law_said, defScope s__law_said, [], []⟩
abbrev s__law_spoilt : Stmt := top 42
def d__law_spoilt : He.DefD := ⟨("_law_spoilt", none), "_law_spoilt", "_law_spoilt", defArgs s__law_spoilt, defBody s__law_spoilt, defScope s__law_spoilt, [], []⟩
abbrev s_law : Stmt := top 43
def d_law : He.DefD := ⟨("law", none), "law", "law", defArgs s_law, defBody s_law, defScope s_law, [], []⟩
abbrev s_BadValue___init__ : Stmt := inClass (top 2) 0
def d_BadValue___init__ : He.DefD := ⟨("BadValue", some "__init__"), "__init__", "BadValue.__init__", defArgs s_BadValue___init__, defBody s_BadValue___init__, defScope s_BadValue___init__, [], []⟩
abbrev s_TooMany___init__ : Stmt := inClass (top 3) 0
def d_TooMany___init__ : He.DefD := ⟨("TooMany", some "__init__"), "__init__", "TooMany.__init__", defArgs s_TooMany___init__, defBody s_TooMany___init__, defScope s_TooMany___init__, [], []⟩
def fn : List He.DefD := [d_is_integer, d_in_range, d_is_ascending, d_need_range, d_need_list, d_is_time, d_is_stay, d_need_stay, d_need_stays, d_has_moment, d_need_shared, d_stay_order, d_accepted, d_most_bookings, d_is_accepted, d__law_cell, d__law_row, d__law_stays, d__law_whole, d__law_holds, d__law_load, d__law_members, d__law_booked, d__law_is_accepted, d__law_bits, d__law_papers, d__law_subsets, d__law_bad_stays, d__law_said, d__law_spoilt, d_law, d_BadValue___init__, d_TooMany___init__]
def fa : List He.Fa := [.glo "is_integer", .glo "in_range", .glo "is_ascending", .glo "need_range", .glo "need_list", .glo "is_time", .glo "is_stay", .glo "need_stay", .glo "need_stays", .glo "has_moment", .glo "need_shared", .glo "stay_order", .glo "accepted", .glo "most_bookings", .glo "is_accepted", .glo "_law_cell", .glo "_law_row", .glo "_law_stays", .glo "_law_whole", .glo "_law_holds", .glo "_law_load", .glo "_law_members", .glo "_law_booked", .glo "_law_is_accepted", .glo "_law_bits", .glo "_law_papers", .glo "_law_subsets", .glo "_law_bad_stays", .glo "_law_said", .glo "_law_spoilt", .glo "law", .glo "BankError", .glo "BadValue", .glo "TooMany", .int "LATEST" 1000000, .int "MOST_STAYS" 60, .int "MOST_COUNT" 60, .free "ValueError", .free "abs", .free "all", .free "bool", .free "int", .free "isinstance", .free "len", .free "list", .free "max", .free "min", .free "range", .free "sorted", .free "tuple"]
def tf : List He.Defn := [("stay_order", none), ("accepted", none)]
def exs : List (Str × List Str) := [("BadValue", ["what"]), ("TooMany", ["limit"])]
def exB (K : PySem.W.Frag) : Bool := XL.exAllB K exs && decide (((tf.map (He.cT K)).map (·.2)).Nodup)
abbrev R : PySem.W.OpenRow := PySem.W.OpenLaw.row PySem.Challenge.rw_parcelbank_k25_bookings_taken_in_turn
abbrev hk : PySem.W.Hook := He.hookX 4 fa fn [] tf exB
def ob (s : PySem.W.SharedT) : He.AlX := He.obsX 4 fa fn [] tf exB (HandSHeadRun.getT s)
theorem ob_eq (s : PySem.W.SharedT) : ob s = hk.obs s.abs := He.obsX_eq (HandSHeadRun.getT_eq s)
def loose : List Str := (["is_integer", "in_range", "is_ascending", "need_range", "need_list", "is_time", "is_stay", "need_stay", "need_stays", "has_moment", "need_shared", "stay_order", "accepted", "most_bookings", "is_accepted", "_law_cell", "_law_row", "_law_stays", "_law_whole", "_law_holds", "_law_load", "_law_members", "_law_booked", "_law_is_accepted", "_law_bits", "_law_papers", "_law_subsets", "_law_bad_stays", "_law_said", "_law_spoilt"] : List Str) ++ (["BankError", "BadValue", "TooMany", "LATEST", "MOST_STAYS", "MOST_COUNT"] : List Str)
abbrev qv : Program := PySem.W.view R.prog [43]
theorem run (w : World) : HandSHeadRun.RunEq R qv hk ob 6000 loose w := by
  intro os
  kernel_rfl
end K25
namespace K25
open PySem L2 XL PyProof.Rows
structure Nv (K : PySem.W.Frag) (mg : Str → Option Value) : Prop where
  ex : XL.exAllB K exs = true
  g_is_integer : mg "is_integer" = some (.ref (He.ga K "is_integer"))
  g_in_range : mg "in_range" = some (.ref (He.ga K "in_range"))
  g_is_ascending : mg "is_ascending" = some (.ref (He.ga K "is_ascending"))
  g_need_range : mg "need_range" = some (.ref (He.ga K "need_range"))
  g_need_list : mg "need_list" = some (.ref (He.ga K "need_list"))
  g_is_time : mg "is_time" = some (.ref (He.ga K "is_time"))
  g_is_stay : mg "is_stay" = some (.ref (He.ga K "is_stay"))
  g_need_stay : mg "need_stay" = some (.ref (He.ga K "need_stay"))
  g_need_stays : mg "need_stays" = some (.ref (He.ga K "need_stays"))
  g_has_moment : mg "has_moment" = some (.ref (He.ga K "has_moment"))
  g_need_shared : mg "need_shared" = some (.ref (He.ga K "need_shared"))
  g_stay_order : mg "stay_order" = some (.ref (He.ga K "stay_order"))
  g_accepted : mg "accepted" = some (.ref (He.ga K "accepted"))
  g_most_bookings : mg "most_bookings" = some (.ref (He.ga K "most_bookings"))
  g_is_accepted : mg "is_accepted" = some (.ref (He.ga K "is_accepted"))
  g__law_cell : mg "_law_cell" = some (.ref (He.ga K "_law_cell"))
  g__law_row : mg "_law_row" = some (.ref (He.ga K "_law_row"))
  g__law_stays : mg "_law_stays" = some (.ref (He.ga K "_law_stays"))
  g__law_whole : mg "_law_whole" = some (.ref (He.ga K "_law_whole"))
  g__law_holds : mg "_law_holds" = some (.ref (He.ga K "_law_holds"))
  g__law_load : mg "_law_load" = some (.ref (He.ga K "_law_load"))
  g__law_members : mg "_law_members" = some (.ref (He.ga K "_law_members"))
  g__law_booked : mg "_law_booked" = some (.ref (He.ga K "_law_booked"))
  g__law_is_accepted : mg "_law_is_accepted" = some (.ref (He.ga K "_law_is_accepted"))
  g__law_bits : mg "_law_bits" = some (.ref (He.ga K "_law_bits"))
  g__law_papers : mg "_law_papers" = some (.ref (He.ga K "_law_papers"))
  g__law_subsets : mg "_law_subsets" = some (.ref (He.ga K "_law_subsets"))
  g__law_bad_stays : mg "_law_bad_stays" = some (.ref (He.ga K "_law_bad_stays"))
  g__law_said : mg "_law_said" = some (.ref (He.ga K "_law_said"))
  g__law_spoilt : mg "_law_spoilt" = some (.ref (He.ga K "_law_spoilt"))
  g_law : mg "law" = some (.ref (He.ga K "law"))
  g_BankError : mg "BankError" = some (.ref (He.ga K "BankError"))
  g_BadValue : mg "BadValue" = some (.ref (He.ga K "BadValue"))
  g_TooMany : mg "TooMany" = some (.ref (He.ga K "TooMany"))
  i_LATEST : ∃ t, mg "LATEST" = some (.int 1000000 t)
  i_MOST_STAYS : ∃ t, mg "MOST_STAYS" = some (.int 60 t)
  i_MOST_COUNT : ∃ t, mg "MOST_COUNT" = some (.int 60 t)
  b_ValueError : mg "ValueError" = none
  b_abs : mg "abs" = none
  b_all : mg "all" = none
  b_bool : mg "bool" = none
  b_int : mg "int" = none
  b_isinstance : mg "isinstance" = none
  b_len : mg "len" = none
  b_list : mg "list" = none
  b_max : mg "max" = none
  b_min : mg "min" = none
  b_range : mg "range" = none
  b_sorted : mg "sorted" = none
  b_tuple : mg "tuple" = none
section
variable {P : Program} {w : World} {K : PySem.W.Frag} {mg : Str → Option Value} {base : Heap} {T : Tbs}
theorem sc_BadValue_init : FnScope ["self", "what"] ["self", "what"] (defScope s_BadValue___init__) := ⟨rfl, rfl, rfl, by decide +kernel, rfl, by decide +kernel, by decide +kernel⟩
theorem fo_BadValue_init (c : ∃ fd, FunD K "__init__" "BadValue.__init__" (defArgs s_BadValue___init__) (defBody s_BadValue___init__) (defScope s_BadValue___init__) [] [] (He.fAd K ("BadValue", some "__init__")) fd) : FO P w K mg base 1 (He.fAd K ("BadValue", some "__init__")) ["self", "what"] (spIni K (He.ga K "BadValue") "what") :=
  FO.ofInit c sc_BadValue_init rfl rfl (fun _ _ _ _ _ _ us hl => match us, hl with | [_, _], _ => rfl) fun A outer s H E => pss_one (ps_ost (pv 0) (pv 1))
theorem sc_TooMany_init : FnScope ["self", "limit"] ["self", "limit"] (defScope s_TooMany___init__) := ⟨rfl, rfl, rfl, by decide +kernel, rfl, by decide +kernel, by decide +kernel⟩
theorem fo_TooMany_init (c : ∃ fd, FunD K "__init__" "TooMany.__init__" (defArgs s_TooMany___init__) (defBody s_TooMany___init__) (defScope s_TooMany___init__) [] [] (He.fAd K ("TooMany", some "__init__")) fd) : FO P w K mg base 1 (He.fAd K ("TooMany", some "__init__")) ["self", "limit"] (spIni K (He.ga K "TooMany") "limit") :=
  FO.ofInit c sc_TooMany_init rfl rfl (fun _ _ _ _ _ _ us hl => match us, hl with | [_, _], _ => rfl) fun A outer s H E => pss_one (ps_ost (pv 0) (pv 1))
abbrev N_is_integer : List Str := ["value"]
def t_is_integer (T : Tbs) (K : PySem.W.Frag) (W : WX) : TS := tRet (tAndV (tCB (rIsi K) (tCons (tVar 0) (tCons (tC (.ty "int")) tNil))) (tNotV (tCB (rIsi K) (tCons (tVar 0) (tCons (tC (.ty "bool")) tNil)))))
theorem sc_is_integer : FnScope N_is_integer ["value"] (defScope s_is_integer) := ⟨rfl, rfl, rfl, by decide +kernel, rfl, by decide +kernel, by decide +kernel⟩
theorem b_is_integer (V : Nv K mg) : BodyOk P w K mg base 0 N_is_integer "is_integer" (defScope s_is_integer) ("is_integer", none) (defBody s_is_integer) (t_is_integer T K) := fun A outer s H E hr =>
  pss_one (ps_ret (pe_and (pe_callB call_isi rfl V.b_isinstance boot_isinstance (pa_cons (pv 0) (pa_cons (pe_bltn rfl V.b_int boot_int rfl) pa_nil))) (pe_one (pe_not (pe_callB call_isi rfl V.b_isinstance boot_isinstance (pa_cons (pv 0) (pa_cons (pe_bltn rfl V.b_bool boot_bool rfl) pa_nil)))))))
theorem fo_is_integer {R_is_integer : List D → Res → Prop} (c : ∃ fd, FunD K "is_integer" "is_integer" (defArgs s_is_integer) (defBody s_is_integer) (defScope s_is_integer) [] [] (He.fAd K ("is_integer", none)) fd) (V : Nv K mg) (hR : ∀ ds r, R_is_integer ds r → ds.length = 1) (hw : Walks T K N_is_integer (t_is_integer T K) R_is_integer) : FO P w K mg base 1 (He.fAd K ("is_integer", none)) ["value"] (SpX T K (He.ga K) R_is_integer) :=
  FO.ofX c sc_is_integer (fun _ _ _ _ _ _ us hl => match us, hl with | [_], _ => rfl) hR (b_is_integer V) hw
abbrev N_in_range : List Str := ["value", "low", "high"]
def t_in_range (T : Tbs) (K : PySem.W.Frag) (R_is_integer : List D → Res → Prop) (W : WX) : TS := tRet (tAndV (tCallS (SpX T K (He.ga K) R_is_integer) (WE W) (tCons (tVar 0) (tNil))) (tAndV (tOp (XL.rLe) (tVar 1) (tVar 0)) (tOp (XL.rLe) (tVar 0) (tVar 2))))
theorem sc_in_range : FnScope N_in_range ["value", "low", "high"] (defScope s_in_range) := ⟨rfl, rfl, rfl, by decide +kernel, rfl, by decide +kernel, by decide +kernel⟩
theorem b_in_range {R_is_integer : List D → Res → Prop} (V : Nv K mg) (F_is_integer : FO P w K mg base 1 (He.fAd K ("is_integer", none)) ["value"] (SpX T K (He.ga K) R_is_integer)) : BodyOk P w K mg base 1 N_in_range "in_range" (defScope s_in_range) ("in_range", none) (defBody s_in_range) (t_in_range T K R_is_integer) := fun A outer s H E hr =>
  pss_one (ps_ret (pe_and (pe_fo F_is_integer hr (by decide) rfl V.g_is_integer (takes_of rfl rfl rfl rfl) (pa_cons (pv 0) (pa_nil))) (pe_and (pe_cmpR o_le (pv 1) (pv 0) (nomark _)) (pe_one (pe_cmpR o_le (pv 0) (pv 2) (nomark _))))))
theorem fo_in_range {R_is_integer : List D → Res → Prop} {R_in_range : List D → Res → Prop} (c : ∃ fd, FunD K "in_range" "in_range" (defArgs s_in_range) (defBody s_in_range) (defScope s_in_range) [] [] (He.fAd K ("in_range", none)) fd) (V : Nv K mg) (F_is_integer : FO P w K mg base 1 (He.fAd K ("is_integer", none)) ["value"] (SpX T K (He.ga K) R_is_integer)) (hR : ∀ ds r, R_in_range ds r → ds.length = 3) (hw : Walks T K N_in_range (t_in_range T K R_is_integer) R_in_range) : FO P w K mg base 2 (He.fAd K ("in_range", none)) ["value", "low", "high"] (SpX T K (He.ga K) R_in_range) :=
  FO.ofX c sc_in_range (fun _ _ _ _ _ _ us hl => match us, hl with | [_, _, _], _ => rfl) hR (b_in_range V F_is_integer) hw
abbrev N_is_ascending : List Str := ["value", "low", "high", "last", "item"]
def t_is_ascending (T : Tbs) (K : PySem.W.Frag) (R_in_range : List D → Res → Prop) (W : WX) : TS := tSeq (tIfS (tNot (tB (tCB (rIsi K) (tCons (tVar 0) (tCons (tC (.ty "list")) tNil))))) (tRet (tC (.bl false))) (tNext)) (tSeq (tAsg (tOp (XL.rSub) (tVar 1) (tC (.int 1))) (gName 3)) (tSeq (tFor (iList K (tVar 0)) (gName 4) (tSeq (tIfS (tOr (tNot (tB (tCallS (SpX T K (He.ga K) R_in_range) (WE W) (tCons (tVar 4) (tCons (tVar 1) (tCons (tVar 2) (tNil))))))) (tTest (tOp (XL.rLe) (tVar 4) (tVar 3)))) (tRet (tC (.bl false))) (tNext)) (tAsg (tVar 4) (gName 3)))) (tRet (tC (.bl true)))))
theorem sc_is_ascending : FnScope N_is_ascending ["value", "low", "high"] (defScope s_is_ascending) := ⟨rfl, rfl, rfl, by decide +kernel, rfl, by decide +kernel, by decide +kernel⟩
theorem b_is_ascending {R_in_range : List D → Res → Prop} (V : Nv K mg) (F_in_range : FO P w K mg base 2 (He.fAd K ("in_range", none)) ["value", "low", "high"] (SpX T K (He.ga K) R_in_range)) : BodyOk P w K mg base 2 N_is_ascending "is_ascending" (defScope s_is_ascending) ("is_ascending", none) (defBody s_is_ascending) (t_is_ascending T K R_in_range) := fun A outer s H E hr =>
  pss_cons (ps_if (pt_not (pt_val (pe_callB call_isi rfl V.b_isinstance boot_isinstance (pa_cons (pv 0) (pa_cons (pe_bltn rfl V.b_list boot_list rfl) pa_nil))))) (pss_one (ps_ret (pe_bl))) (pss_nil)) (pss_cons (ps_set (i := 3) sc_is_ascending.nd rfl (by first | exact Or.inl rfl | exact Or.inr rfl) (pe_op o_sub (pv 1) (pe_int))) (pss_cons (ps_for (passes_of rfl) rfl (pi_list (pv 0)) (pg_name (i := 4) sc_is_ascending.nd rfl (by first | exact Or.inl rfl | exact Or.inr rfl)) (pss_cons (ps_if (PW.pt (pw_or (pt_not (pt_val (pe_fo F_in_range hr (by decide) rfl V.g_in_range (takes_of rfl rfl rfl rfl) (pa_cons (pv 4) (pa_cons (pv 1) (pa_cons (pv 2) (pa_nil))))))) (pw_or1 (pt_cmpR o_le (pv 4) (pv 3) (nomark _))))) (pss_one (ps_ret (pe_bl))) (pss_nil)) (pss_one (ps_set (i := 3) sc_is_ascending.nd rfl (by first | exact Or.inl rfl | exact Or.inr rfl) (pv 4))))) (pss_one (ps_ret (pe_bl)))))
theorem fo_is_ascending {R_in_range : List D → Res → Prop} {R_is_ascending : List D → Res → Prop} (c : ∃ fd, FunD K "is_ascending" "is_ascending" (defArgs s_is_ascending) (defBody s_is_ascending) (defScope s_is_ascending) [] [] (He.fAd K ("is_ascending", none)) fd) (V : Nv K mg) (F_in_range : FO P w K mg base 2 (He.fAd K ("in_range", none)) ["value", "low", "high"] (SpX T K (He.ga K) R_in_range)) (hR : ∀ ds r, R_is_ascending ds r → ds.length = 3) (hw : Walks T K N_is_ascending (t_is_ascending T K R_in_range) R_is_ascending) : FO P w K mg base 3 (He.fAd K ("is_ascending", none)) ["value", "low", "high"] (SpX T K (He.ga K) R_is_ascending) :=
  FO.ofX c sc_is_ascending (fun _ _ _ _ _ _ us hl => match us, hl with | [_, _, _], _ => rfl) hR (b_is_ascending V F_in_range) hw
abbrev N_need_range : List Str := ["value", "low", "high", "what"]
def t_need_range (T : Tbs) (K : PySem.W.Frag) (R_in_range : List D → Res → Prop) (W : WX) : TS := tIfS (tNot (tB (tCallS (SpX T K (He.ga K) R_in_range) (WE W) (tCons (tVar 0) (tCons (tVar 1) (tCons (tVar 2) (tNil))))))) (tRaise1 K "BadValue" "what" W (tVar 3)) (tNext)
theorem sc_need_range : FnScope N_need_range ["value", "low", "high", "what"] (defScope s_need_range) := ⟨rfl, rfl, rfl, by decide +kernel, rfl, by decide +kernel, by decide +kernel⟩
theorem b_need_range {R_in_range : List D → Res → Prop} (V : Nv K mg) (F_in_range : FO P w K mg base 2 (He.fAd K ("in_range", none)) ["value", "low", "high"] (SpX T K (He.ga K) R_in_range)) (F_BadValue_init : FO P w K mg base 1 (He.fAd K ("BadValue", some "__init__")) ["self", "what"] (spIni K (He.ga K "BadValue") "what")) : BodyOk P w K mg base 2 N_need_range "need_range" (defScope s_need_range) ("need_range", none) (defBody s_need_range) (t_need_range T K R_in_range) := fun A outer s H E hr =>
  pss_one (ps_if (pt_not (pt_val (pe_fo F_in_range hr (by decide) rfl V.g_in_range (takes_of rfl rfl rfl rfl) (pa_cons (pv 0) (pa_cons (pv 1) (pa_cons (pv 2) (pa_nil))))))) (pss_one (ps_raiseC (exs := exs) rfl V.ex (by simp [exs]) F_BadValue_init hr (by decide) rfl V.g_BadValue (takes_of rfl rfl rfl rfl) (pv 3))) (pss_nil))
theorem fo_need_range {R_in_range : List D → Res → Prop} {R_need_range : List D → Res → Prop} (c : ∃ fd, FunD K "need_range" "need_range" (defArgs s_need_range) (defBody s_need_range) (defScope s_need_range) [] [] (He.fAd K ("need_range", none)) fd) (V : Nv K mg) (F_in_range : FO P w K mg base 2 (He.fAd K ("in_range", none)) ["value", "low", "high"] (SpX T K (He.ga K) R_in_range)) (F_BadValue_init : FO P w K mg base 1 (He.fAd K ("BadValue", some "__init__")) ["self", "what"] (spIni K (He.ga K "BadValue") "what")) (hR : ∀ ds r, R_need_range ds r → ds.length = 4) (hw : Walks T K N_need_range (t_need_range T K R_in_range) R_need_range) : FO P w K mg base 3 (He.fAd K ("need_range", none)) ["value", "low", "high", "what"] (SpX T K (He.ga K) R_need_range) :=
  FO.ofX c sc_need_range (fun _ _ _ _ _ _ us hl => match us, hl with | [_, _, _, _], _ => rfl) hR (b_need_range V F_in_range F_BadValue_init) hw
abbrev N_need_list : List Str := ["value", "limit", "what"]
def t_need_list (T : Tbs) (K : PySem.W.Frag) (W : WX) : TS := tSeq (tIfS (tNot (tB (tCB (rIsi K) (tCons (tVar 0) (tCons (tC (.ty "list")) tNil))))) (tRaise1 K "BadValue" "what" W (tVar 2)) (tNext)) (tIfS (tTest (tOp (XL.rGt) (tCB (XL.rLen K) (tCons (tVar 0) (tNil))) (tVar 1))) (tRaise1 K "TooMany" "limit" W (tVar 1)) (tNext))
theorem sc_need_list : FnScope N_need_list ["value", "limit", "what"] (defScope s_need_list) := ⟨rfl, rfl, rfl, by decide +kernel, rfl, by decide +kernel, by decide +kernel⟩
theorem b_need_list (V : Nv K mg) (F_TooMany_init : FO P w K mg base 1 (He.fAd K ("TooMany", some "__init__")) ["self", "limit"] (spIni K (He.ga K "TooMany") "limit")) (F_BadValue_init : FO P w K mg base 1 (He.fAd K ("BadValue", some "__init__")) ["self", "what"] (spIni K (He.ga K "BadValue") "what")) : BodyOk P w K mg base 2 N_need_list "need_list" (defScope s_need_list) ("need_list", none) (defBody s_need_list) (t_need_list T K) := fun A outer s H E hr =>
  pss_cons (ps_if (pt_not (pt_val (pe_callB call_isi rfl V.b_isinstance boot_isinstance (pa_cons (pv 0) (pa_cons (pe_bltn rfl V.b_list boot_list rfl) pa_nil))))) (pss_one (ps_raiseC (exs := exs) rfl V.ex (by simp [exs]) F_BadValue_init hr (by decide) rfl V.g_BadValue (takes_of rfl rfl rfl rfl) (pv 2))) (pss_nil)) (pss_one (ps_if (pt_cmpR o_gt (pe_callB c_len rfl V.b_len boot_len (pa_cons (pv 0) (pa_nil))) (pv 1) (nomark _)) (pss_one (ps_raiseC (exs := exs) rfl V.ex (by simp [exs]) F_TooMany_init hr (by decide) rfl V.g_TooMany (takes_of rfl rfl rfl rfl) (pv 1))) (pss_nil)))
theorem fo_need_list {R_need_list : List D → Res → Prop} (c : ∃ fd, FunD K "need_list" "need_list" (defArgs s_need_list) (defBody s_need_list) (defScope s_need_list) [] [] (He.fAd K ("need_list", none)) fd) (V : Nv K mg) (F_TooMany_init : FO P w K mg base 1 (He.fAd K ("TooMany", some "__init__")) ["self", "limit"] (spIni K (He.ga K "TooMany") "limit")) (F_BadValue_init : FO P w K mg base 1 (He.fAd K ("BadValue", some "__init__")) ["self", "what"] (spIni K (He.ga K "BadValue") "what")) (hR : ∀ ds r, R_need_list ds r → ds.length = 3) (hw : Walks T K N_need_list (t_need_list T K) R_need_list) : FO P w K mg base 3 (He.fAd K ("need_list", none)) ["value", "limit", "what"] (SpX T K (He.ga K) R_need_list) :=
  FO.ofX c sc_need_list (fun _ _ _ _ _ _ us hl => match us, hl with | [_, _, _], _ => rfl) hR (b_need_list V F_TooMany_init F_BadValue_init) hw
abbrev N_is_time : List Str := ["value"]
def t_is_time (T : Tbs) (K : PySem.W.Frag) (R_in_range : List D → Res → Prop) (W : WX) : TS := tRet (tCallS (SpX T K (He.ga K) R_in_range) (WE W) (tCons (tVar 0) (tCons (tC (.int 0)) (tCons (tC (.int 1000000)) (tNil)))))
theorem sc_is_time : FnScope N_is_time ["value"] (defScope s_is_time) := ⟨rfl, rfl, rfl, by decide +kernel, rfl, by decide +kernel, by decide +kernel⟩
theorem b_is_time {R_in_range : List D → Res → Prop} (V : Nv K mg) (F_in_range : FO P w K mg base 2 (He.fAd K ("in_range", none)) ["value", "low", "high"] (SpX T K (He.ga K) R_in_range)) : BodyOk P w K mg base 2 N_is_time "is_time" (defScope s_is_time) ("is_time", none) (defBody s_is_time) (t_is_time T K R_in_range) := fun A outer s H E hr =>
  pss_one (ps_ret (pe_fo F_in_range hr (by decide) rfl V.g_in_range (takes_of rfl rfl rfl rfl) (pa_cons (pv 0) (pa_cons (pe_int) (pa_cons (pe_gint rfl V.i_LATEST) (pa_nil))))))
theorem fo_is_time {R_in_range : List D → Res → Prop} {R_is_time : List D → Res → Prop} (c : ∃ fd, FunD K "is_time" "is_time" (defArgs s_is_time) (defBody s_is_time) (defScope s_is_time) [] [] (He.fAd K ("is_time", none)) fd) (V : Nv K mg) (F_in_range : FO P w K mg base 2 (He.fAd K ("in_range", none)) ["value", "low", "high"] (SpX T K (He.ga K) R_in_range)) (hR : ∀ ds r, R_is_time ds r → ds.length = 1) (hw : Walks T K N_is_time (t_is_time T K R_in_range) R_is_time) : FO P w K mg base 3 (He.fAd K ("is_time", none)) ["value"] (SpX T K (He.ga K) R_is_time) :=
  FO.ofX c sc_is_time (fun _ _ _ _ _ _ us hl => match us, hl with | [_], _ => rfl) hR (b_is_time V F_in_range) hw
abbrev N_is_stay : List Str := ["value"]
def t_is_stay (T : Tbs) (K : PySem.W.Frag) (R_is_time : List D → Res → Prop) (W : WX) : TS := tSeq (tIfS (tOr (tNot (tB (tCB (rIsi K) (tCons (tVar 0) (tCons (tC (.ty "tuple")) tNil))))) (tTest (tOp (rNeD K) (tCB (XL.rLen K) (tCons (tVar 0) (tNil))) (tC (.int 2))))) (tRet (tC (.bl false))) (tNext)) (tRet (tAndV (tCallS (SpX T K (He.ga K) R_is_time) (WE W) (tCons (tOp (rIx K) (tVar 0) (tC (.int 0))) (tNil))) (tAndV (tCallS (SpX T K (He.ga K) R_is_time) (WE W) (tCons (tOp (rIx K) (tVar 0) (tC (.int 1))) (tNil))) (tOp (XL.rLt) (tOp (rIx K) (tVar 0) (tC (.int 0))) (tOp (rIx K) (tVar 0) (tC (.int 1)))))))
theorem sc_is_stay : FnScope N_is_stay ["value"] (defScope s_is_stay) := ⟨rfl, rfl, rfl, by decide +kernel, rfl, by decide +kernel, by decide +kernel⟩
theorem b_is_stay {R_is_time : List D → Res → Prop} (V : Nv K mg) (F_is_time : FO P w K mg base 3 (He.fAd K ("is_time", none)) ["value"] (SpX T K (He.ga K) R_is_time)) : BodyOk P w K mg base 3 N_is_stay "is_stay" (defScope s_is_stay) ("is_stay", none) (defBody s_is_stay) (t_is_stay T K R_is_time) := fun A outer s H E hr =>
  pss_cons (ps_if (PW.pt (pw_or (pt_not (pt_val (pe_callB call_isi rfl V.b_isinstance boot_isinstance (pa_cons (pv 0) (pa_cons (pe_bltn rfl V.b_tuple boot_tuple rfl) pa_nil))))) (pw_or1 (pt_cmpR (op_neD hr.units) (pe_callB c_len rfl V.b_len boot_len (pa_cons (pv 0) (pa_nil))) (pe_int) (nomark _))))) (pss_one (ps_ret (pe_bl))) (pss_nil)) (pss_one (ps_ret (pe_and (pe_fo F_is_time hr (by decide) rfl V.g_is_time (takes_of rfl rfl rfl rfl) (pa_cons (pe_ix ix_seq (pv 0) (pe_int) (fun _ _ => rfl)) (pa_nil))) (pe_and (pe_fo F_is_time hr (by decide) rfl V.g_is_time (takes_of rfl rfl rfl rfl) (pa_cons (pe_ix ix_seq (pv 0) (pe_int) (fun _ _ => rfl)) (pa_nil))) (pe_one (pe_cmpR o_lt (pe_ix ix_seq (pv 0) (pe_int) (fun _ _ => rfl)) (pe_ix ix_seq (pv 0) (pe_int) (fun _ _ => rfl)) (nomark _)))))))
theorem fo_is_stay {R_is_time : List D → Res → Prop} {R_is_stay : List D → Res → Prop} (c : ∃ fd, FunD K "is_stay" "is_stay" (defArgs s_is_stay) (defBody s_is_stay) (defScope s_is_stay) [] [] (He.fAd K ("is_stay", none)) fd) (V : Nv K mg) (F_is_time : FO P w K mg base 3 (He.fAd K ("is_time", none)) ["value"] (SpX T K (He.ga K) R_is_time)) (hR : ∀ ds r, R_is_stay ds r → ds.length = 1) (hw : Walks T K N_is_stay (t_is_stay T K R_is_time) R_is_stay) : FO P w K mg base 4 (He.fAd K ("is_stay", none)) ["value"] (SpX T K (He.ga K) R_is_stay) :=
  FO.ofX c sc_is_stay (fun _ _ _ _ _ _ us hl => match us, hl with | [_], _ => rfl) hR (b_is_stay V F_is_time) hw
abbrev N_need_stay : List Str := ["value", "what"]
def t_need_stay (T : Tbs) (K : PySem.W.Frag) (R_is_stay : List D → Res → Prop) (W : WX) : TS := tIfS (tNot (tB (tCallS (SpX T K (He.ga K) R_is_stay) (WE W) (tCons (tVar 0) (tNil))))) (tRaise1 K "BadValue" "what" W (tVar 1)) (tNext)
theorem sc_need_stay : FnScope N_need_stay ["value", "what"] (defScope s_need_stay) := ⟨rfl, rfl, rfl, by decide +kernel, rfl, by decide +kernel, by decide +kernel⟩
theorem b_need_stay {R_is_stay : List D → Res → Prop} (V : Nv K mg) (F_is_stay : FO P w K mg base 4 (He.fAd K ("is_stay", none)) ["value"] (SpX T K (He.ga K) R_is_stay)) (F_BadValue_init : FO P w K mg base 1 (He.fAd K ("BadValue", some "__init__")) ["self", "what"] (spIni K (He.ga K "BadValue") "what")) : BodyOk P w K mg base 4 N_need_stay "need_stay" (defScope s_need_stay) ("need_stay", none) (defBody s_need_stay) (t_need_stay T K R_is_stay) := fun A outer s H E hr =>
  pss_one (ps_if (pt_not (pt_val (pe_fo F_is_stay hr (by decide) rfl V.g_is_stay (takes_of rfl rfl rfl rfl) (pa_cons (pv 0) (pa_nil))))) (pss_one (ps_raiseC (exs := exs) rfl V.ex (by simp [exs]) F_BadValue_init hr (by decide) rfl V.g_BadValue (takes_of rfl rfl rfl rfl) (pv 1))) (pss_nil))
theorem fo_need_stay {R_is_stay : List D → Res → Prop} {R_need_stay : List D → Res → Prop} (c : ∃ fd, FunD K "need_stay" "need_stay" (defArgs s_need_stay) (defBody s_need_stay) (defScope s_need_stay) [] [] (He.fAd K ("need_stay", none)) fd) (V : Nv K mg) (F_is_stay : FO P w K mg base 4 (He.fAd K ("is_stay", none)) ["value"] (SpX T K (He.ga K) R_is_stay)) (F_BadValue_init : FO P w K mg base 1 (He.fAd K ("BadValue", some "__init__")) ["self", "what"] (spIni K (He.ga K "BadValue") "what")) (hR : ∀ ds r, R_need_stay ds r → ds.length = 2) (hw : Walks T K N_need_stay (t_need_stay T K R_is_stay) R_need_stay) : FO P w K mg base 5 (He.fAd K ("need_stay", none)) ["value", "what"] (SpX T K (He.ga K) R_need_stay) :=
  FO.ofX c sc_need_stay (fun _ _ _ _ _ _ us hl => match us, hl with | [_, _], _ => rfl) hR (b_need_stay V F_is_stay F_BadValue_init) hw
abbrev N_need_stays : List Str := ["value", "limit", "what", "stay"]
def t_need_stays (T : Tbs) (K : PySem.W.Frag) (R_need_stay R_need_list : List D → Res → Prop) (W : WX) : TS := tSeq (tDrop (tCallS (SpX T K (He.ga K) R_need_list) (WE W) (tCons (tVar 0) (tCons (tVar 1) (tCons (tVar 2) (tNil)))))) (tFor (iList K (tVar 0)) (gName 3) (tDrop (tCallS (SpX T K (He.ga K) R_need_stay) (WE W) (tCons (tVar 3) (tCons (tVar 2) (tNil))))))
theorem sc_need_stays : FnScope N_need_stays ["value", "limit", "what"] (defScope s_need_stays) := ⟨rfl, rfl, rfl, by decide +kernel, rfl, by decide +kernel, by decide +kernel⟩
theorem b_need_stays {R_need_stay R_need_list : List D → Res → Prop} (V : Nv K mg) (F_need_stay : FO P w K mg base 5 (He.fAd K ("need_stay", none)) ["value", "what"] (SpX T K (He.ga K) R_need_stay)) (F_need_list : FO P w K mg base 3 (He.fAd K ("need_list", none)) ["value", "limit", "what"] (SpX T K (He.ga K) R_need_list)) : BodyOk P w K mg base 5 N_need_stays "need_stays" (defScope s_need_stays) ("need_stays", none) (defBody s_need_stays) (t_need_stays T K R_need_stay R_need_list) := fun A outer s H E hr =>
  pss_cons (ps_expr (pe_fo F_need_list hr (by decide) rfl V.g_need_list (takes_of rfl rfl rfl rfl) (pa_cons (pv 0) (pa_cons (pv 1) (pa_cons (pv 2) (pa_nil)))))) (pss_one (ps_for (passes_of rfl) rfl (pi_list (pv 0)) (pg_name (i := 3) sc_need_stays.nd rfl (by first | exact Or.inl rfl | exact Or.inr rfl)) (pss_one (ps_expr (pe_fo F_need_stay hr (by decide) rfl V.g_need_stay (takes_of rfl rfl rfl rfl) (pa_cons (pv 3) (pa_cons (pv 2) (pa_nil))))))))
theorem fo_need_stays {R_need_stay R_need_list : List D → Res → Prop} {R_need_stays : List D → Res → Prop} (c : ∃ fd, FunD K "need_stays" "need_stays" (defArgs s_need_stays) (defBody s_need_stays) (defScope s_need_stays) [] [] (He.fAd K ("need_stays", none)) fd) (V : Nv K mg) (F_need_stay : FO P w K mg base 5 (He.fAd K ("need_stay", none)) ["value", "what"] (SpX T K (He.ga K) R_need_stay)) (F_need_list : FO P w K mg base 3 (He.fAd K ("need_list", none)) ["value", "limit", "what"] (SpX T K (He.ga K) R_need_list)) (hR : ∀ ds r, R_need_stays ds r → ds.length = 3) (hw : Walks T K N_need_stays (t_need_stays T K R_need_stay R_need_list) R_need_stays) : FO P w K mg base 6 (He.fAd K ("need_stays", none)) ["value", "limit", "what"] (SpX T K (He.ga K) R_need_stays) :=
  FO.ofX c sc_need_stays (fun _ _ _ _ _ _ us hl => match us, hl with | [_, _, _], _ => rfl) hR (b_need_stays V F_need_stay F_need_list) hw
abbrev N_has_moment : List Str := ["stay", "moment"]
def t_has_moment (T : Tbs) (K : PySem.W.Frag) (W : WX) : TS := tRet (tAndV (tOp (XL.rLe) (tOp (rIx K) (tVar 0) (tC (.int 0))) (tVar 1)) (tOp (XL.rLt) (tVar 1) (tOp (rIx K) (tVar 0) (tC (.int 1)))))
theorem sc_has_moment : FnScope N_has_moment ["stay", "moment"] (defScope s_has_moment) := ⟨rfl, rfl, rfl, by decide +kernel, rfl, by decide +kernel, by decide +kernel⟩
theorem b_has_moment (V : Nv K mg) : BodyOk P w K mg base 0 N_has_moment "has_moment" (defScope s_has_moment) ("has_moment", none) (defBody s_has_moment) (t_has_moment T K) := fun A outer s H E hr =>
  pss_one (ps_ret (pe_and (pe_cmpR o_le (pe_ix ix_seq (pv 0) (pe_int) (fun _ _ => rfl)) (pv 1) (nomark _)) (pe_one (pe_cmpR o_lt (pv 1) (pe_ix ix_seq (pv 0) (pe_int) (fun _ _ => rfl)) (nomark _)))))
theorem fo_has_moment {R_has_moment : List D → Res → Prop} (c : ∃ fd, FunD K "has_moment" "has_moment" (defArgs s_has_moment) (defBody s_has_moment) (defScope s_has_moment) [] [] (He.fAd K ("has_moment", none)) fd) (V : Nv K mg) (hR : ∀ ds r, R_has_moment ds r → ds.length = 2) (hw : Walks T K N_has_moment (t_has_moment T K) R_has_moment) : FO P w K mg base 1 (He.fAd K ("has_moment", none)) ["stay", "moment"] (SpX T K (He.ga K) R_has_moment) :=
  FO.ofX c sc_has_moment (fun _ _ _ _ _ _ us hl => match us, hl with | [_, _], _ => rfl) hR (b_has_moment V) hw
abbrev N_need_shared : List Str := ["stays", "count", "what"]
def t_need_shared (T : Tbs) (K : PySem.W.Frag) (R_need_range R_need_stays : List D → Res → Prop) (W : WX) : TS := tSeq (tDrop (tCallS (SpX T K (He.ga K) R_need_stays) (WE W) (tCons (tVar 0) (tCons (tC (.int 60)) (tCons (tVar 2) (tNil)))))) (tDrop (tCallS (SpX T K (He.ga K) R_need_range) (WE W) (tCons (tVar 1) (tCons (tC (.int 0)) (tCons (tC (.int 60)) (tCons (tC (.str "count")) (tNil)))))))
theorem sc_need_shared : FnScope N_need_shared ["stays", "count", "what"] (defScope s_need_shared) := ⟨rfl, rfl, rfl, by decide +kernel, rfl, by decide +kernel, by decide +kernel⟩
theorem b_need_shared {R_need_range R_need_stays : List D → Res → Prop} (V : Nv K mg) (F_need_range : FO P w K mg base 3 (He.fAd K ("need_range", none)) ["value", "low", "high", "what"] (SpX T K (He.ga K) R_need_range)) (F_need_stays : FO P w K mg base 6 (He.fAd K ("need_stays", none)) ["value", "limit", "what"] (SpX T K (He.ga K) R_need_stays)) : BodyOk P w K mg base 6 N_need_shared "need_shared" (defScope s_need_shared) ("need_shared", none) (defBody s_need_shared) (t_need_shared T K R_need_range R_need_stays) := fun A outer s H E hr =>
  pss_cons (ps_expr (pe_fo F_need_stays hr (by decide) rfl V.g_need_stays (takes_of rfl rfl rfl rfl) (pa_cons (pv 0) (pa_cons (pe_gint rfl V.i_MOST_STAYS) (pa_cons (pv 2) (pa_nil)))))) (pss_one (ps_expr (pe_fo F_need_range hr (by decide) rfl V.g_need_range (takes_of rfl rfl rfl rfl) (pa_cons (pv 1) (pa_cons (pe_int) (pa_cons (pe_gint rfl V.i_MOST_COUNT) (pa_cons (pe_str) (pa_nil))))))))
theorem fo_need_shared {R_need_range R_need_stays : List D → Res → Prop} {R_need_shared : List D → Res → Prop} (c : ∃ fd, FunD K "need_shared" "need_shared" (defArgs s_need_shared) (defBody s_need_shared) (defScope s_need_shared) [] [] (He.fAd K ("need_shared", none)) fd) (V : Nv K mg) (F_need_range : FO P w K mg base 3 (He.fAd K ("need_range", none)) ["value", "low", "high", "what"] (SpX T K (He.ga K) R_need_range)) (F_need_stays : FO P w K mg base 6 (He.fAd K ("need_stays", none)) ["value", "limit", "what"] (SpX T K (He.ga K) R_need_stays)) (hR : ∀ ds r, R_need_shared ds r → ds.length = 3) (hw : Walks T K N_need_shared (t_need_shared T K R_need_range R_need_stays) R_need_shared) : FO P w K mg base 7 (He.fAd K ("need_shared", none)) ["stays", "count", "what"] (SpX T K (He.ga K) R_need_shared) :=
  FO.ofX c sc_need_shared (fun _ _ _ _ _ _ us hl => match us, hl with | [_, _, _], _ => rfl) hR (b_need_shared V F_need_range F_need_stays) hw
abbrev N_stay_order : List Str := ["stays"]
def t_stay_order (T : Tbs) (K : PySem.W.Frag) (W : WX) : TS := tRet (tSortK T K (srcR (tCB (XL.rLen K) (tCons (tVar 0) (tNil)))) ["number", "stays"] [0] (tTup (tCons (tOp (rIx K) (tOp (rIx K) (tVar 1) (tVar 0)) (tC (.int 0))) (tCons (tVar 0) (tNil)))))
theorem sc_stay_order : FnScope N_stay_order ["stays"] (defScope s_stay_order) := ⟨rfl, rfl, rfl, by decide +kernel, rfl, by decide +kernel, by decide +kernel⟩
theorem b_stay_order (V : Nv K mg) (TB : LamX.TabB base mg (He.cT K ("stay_order", none)).1 (He.cT K ("stay_order", none)).2) (hmT : ((He.cT K ("stay_order", none)).2, (envOfC "stay_order" (defScope s_stay_order) 0 0 .none).qual ++ "<lambda>") ∈ T) (hu : ∀ p ∈ T, p.1 = (He.cT K ("stay_order", none)).2 → p.2 = (envOfC "stay_order" (defScope s_stay_order) 0 0 .none).qual ++ "<lambda>") : BodyOk P w K mg base 2 N_stay_order "stay_order" (defScope s_stay_order) ("stay_order", none) (defBody s_stay_order) (t_stay_order T K) := fun A outer s H E hr =>
  pss_one (ps_ret (pe_sortk (k := 0) (N := ["number", "stays"]) (x := "number") (fr := ["stays"]) (js := [0]) (T := T) rfl V.b_sorted boot_sorted (ps_rng rfl V.b_range (pe_callB c_len rfl V.b_len boot_len (pa_cons (pv 0) (pa_nil)))) TB rfl hmT hu (hr.mono (by decide)) rfl (NdefX.nscope_by (by decide +kernel)) (free_by (sc := defScope s_stay_order) (by decide +kernel)) (by decide +kernel) rfl (fun _ _ _ _ _ _ => rfl) (fun _ _ _ _ _ _ _ => pe_tup (pa_cons (pe_ix ix_seq (pe_ix ix_seq (pv 1) (pv 0) (fun _ _ => rfl)) (pe_int) (fun _ _ => rfl)) (pa_cons (pv 0) (pa_nil))))))
theorem fo_stay_order {R_stay_order : List D → Res → Prop} (c : ∃ fd, FunD K "stay_order" "stay_order" (defArgs s_stay_order) (defBody s_stay_order) (defScope s_stay_order) [] [] (He.fAd K ("stay_order", none)) fd) (V : Nv K mg) (TB : LamX.TabB base mg (He.cT K ("stay_order", none)).1 (He.cT K ("stay_order", none)).2) (hmT : ((He.cT K ("stay_order", none)).2, (envOfC "stay_order" (defScope s_stay_order) 0 0 .none).qual ++ "<lambda>") ∈ T) (hu : ∀ p ∈ T, p.1 = (He.cT K ("stay_order", none)).2 → p.2 = (envOfC "stay_order" (defScope s_stay_order) 0 0 .none).qual ++ "<lambda>") (hR : ∀ ds r, R_stay_order ds r → ds.length = 1) (hw : Walks T K N_stay_order (t_stay_order T K) R_stay_order) : FO P w K mg base 3 (He.fAd K ("stay_order", none)) ["stays"] (SpX T K (He.ga K) R_stay_order) :=
  FO.ofX c sc_stay_order (fun _ _ _ _ _ _ us hl => match us, hl with | [_], _ => rfl) hR (b_stay_order V TB hmT hu) hw
abbrev N_accepted : List Str := ["stays", "count", "members", "number", "start", "present", "member"]
def t_accepted (T : Tbs) (K : PySem.W.Frag) (R_stay_order R_has_moment : List D → Res → Prop) (W : WX) : TS := tSeq (tAsg (tLst (tNil)) (gName 2)) (tSeq (tFor (iList K (tCallS (SpX T K (He.ga K) R_stay_order) (WE W) (tCons (tVar 0) (tNil)))) (gName 3) (tSeq (tDrop (tBM K "list" rAppend (tVar 2) (tCons (tVar 3) (tNil)))) (tSeq (tAsg (tOp (rIx K) (tOp (rIx K) (tVar 0) (tVar 3)) (tC (.int 0))) (gName 4)) (tSeq (tAsg (tLc (iList K (tVar 2)) (gName 6) (tB (tCall (SpX T K (He.ga K) R_has_moment) [] E0 (tCons (tOp (rIx K) (tVar 0) (tVar 6)) (tCons (tVar 4) (tNil))))) (tVar 6) [6]) (gName 5)) (tIfS (tTest (tOp (XL.rGt) (tCB (XL.rLen K) (tCons (tVar 5) (tNil))) (tVar 1))) (tDrop (tRemX K W (tVar 2) (tMaxK T K (tVar 5) ["member", "stays"] [0] (tTup (tCons (tOp (rIx K) (tOp (rIx K) (tVar 1) (tVar 0)) (tC (.int 1))) (tCons (tVar 0) (tNil))))))) (tNext)))))) (tRet (tCB (XL.rSrt K) (tCons (tVar 2) (tNil)))))
theorem sc_accepted : FnScope N_accepted ["stays", "count"] (defScope s_accepted) := ⟨rfl, rfl, rfl, by decide +kernel, rfl, by decide +kernel, by decide +kernel⟩
theorem b_accepted {R_stay_order R_has_moment : List D → Res → Prop} (V : Nv K mg) (F_stay_order : FO P w K mg base 3 (He.fAd K ("stay_order", none)) ["stays"] (SpX T K (He.ga K) R_stay_order)) (F_has_moment : FO P w K mg base 1 (He.fAd K ("has_moment", none)) ["stay", "moment"] (SpX T K (He.ga K) R_has_moment)) (TB : LamX.TabB base mg (He.cT K ("accepted", none)).1 (He.cT K ("accepted", none)).2) (hmT : ((He.cT K ("accepted", none)).2, (envOfC "accepted" (defScope s_accepted) 0 0 .none).qual ++ "<lambda>") ∈ T) (hu : ∀ p ∈ T, p.1 = (He.cT K ("accepted", none)).2 → p.2 = (envOfC "accepted" (defScope s_accepted) 0 0 .none).qual ++ "<lambda>") : BodyOk P w K mg base 3 N_accepted "accepted" (defScope s_accepted) ("accepted", none) (defBody s_accepted) (t_accepted T K R_stay_order R_has_moment) := fun A outer s H E hr =>
  pss_cons (ps_set (i := 2) sc_accepted.nd rfl (by first | exact Or.inl rfl | exact Or.inr rfl) (pe_lst (pa_nil))) (pss_cons (ps_for (passes_of rfl) rfl (pi_list (pe_fo F_stay_order hr (by decide) rfl V.g_stay_order (takes_of rfl rfl rfl rfl) (pa_cons (pv 0) (pa_nil)))) (pg_name (i := 3) sc_accepted.nd rfl (by first | exact Or.inl rfl | exact Or.inr rfl)) (pss_cons (ps_expr (pe_bm PySem.F.plainAttrs_list PySem.F.slot_list_append PySem.F.type_list_append mt_append (pv 2) (pa_cons (pv 3) (pa_nil)))) (pss_cons (ps_set (i := 4) sc_accepted.nd rfl (by first | exact Or.inl rfl | exact Or.inr rfl) (pe_ix ix_seq (pe_ix ix_seq (pv 0) (pv 3) (fun _ _ => rfl)) (pe_int) (fun _ _ => rfl))) (pss_cons (ps_setLc (i := 5) (own := [("member", 6)]) (g := gName 6) rfl sc_accepted.nd rfl rfl (sw_true rfl rfl rfl (by decide +kernel)) (pi_list (pv 2)) (blkOk_by (own := [("member", 6)]) (N := N_accepted) (sc := defScope s_accepted) (by decide +kernel)) (fun _ _ _ _ _ => pg_name (i := 6) sc_accepted.nd rfl (Or.inl rfl)) (fun _ _ _ _ _ => pts_one (pt_val (pe_fo0 F_has_moment hr (by decide) rfl V.g_has_moment (pa_cons (pe_ix ix_seq (pv 0) (pv 6) (fun _ _ => rfl)) (pa_cons (pv 4) (pa_nil)))))) (fun _ _ _ _ _ => pv 6)) (pss_one (ps_if (pt_cmpR o_gt (pe_callB c_len rfl V.b_len boot_len (pa_cons (pv 5) (pa_nil))) (pv 1) (nomark _)) (pss_one (ps_expr (pe_remX rfl (takes_of rfl rfl rfl rfl) (pv 2) (pe_maxk (k := 0) (N := ["member", "stays"]) (x := "member") (fr := ["stays"]) (js := [0]) (T := T) rfl V.b_max boot_max (pv 5) TB rfl hmT hu (hr.mono (by decide)) rfl (NdefX.nscope_by (by decide +kernel)) (free_by (sc := defScope s_accepted) (by decide +kernel)) (by decide +kernel) rfl (fun _ _ _ _ _ _ => rfl) (fun _ _ _ _ _ _ _ => pe_tup (pa_cons (pe_ix ix_seq (pe_ix ix_seq (pv 1) (pv 0) (fun _ _ => rfl)) (pe_int) (fun _ _ => rfl)) (pa_cons (pv 0) (pa_nil)))))))) (pss_nil))))))) (pss_one (ps_ret (pe_callB c_sorted rfl V.b_sorted boot_sorted (pa_cons (pv 2) (pa_nil))))))
theorem fo_accepted {R_stay_order R_has_moment : List D → Res → Prop} {R_accepted : List D → Res → Prop} (c : ∃ fd, FunD K "accepted" "accepted" (defArgs s_accepted) (defBody s_accepted) (defScope s_accepted) [] [] (He.fAd K ("accepted", none)) fd) (V : Nv K mg) (F_stay_order : FO P w K mg base 3 (He.fAd K ("stay_order", none)) ["stays"] (SpX T K (He.ga K) R_stay_order)) (F_has_moment : FO P w K mg base 1 (He.fAd K ("has_moment", none)) ["stay", "moment"] (SpX T K (He.ga K) R_has_moment)) (TB : LamX.TabB base mg (He.cT K ("accepted", none)).1 (He.cT K ("accepted", none)).2) (hmT : ((He.cT K ("accepted", none)).2, (envOfC "accepted" (defScope s_accepted) 0 0 .none).qual ++ "<lambda>") ∈ T) (hu : ∀ p ∈ T, p.1 = (He.cT K ("accepted", none)).2 → p.2 = (envOfC "accepted" (defScope s_accepted) 0 0 .none).qual ++ "<lambda>") (hR : ∀ ds r, R_accepted ds r → ds.length = 2) (hw : Walks T K N_accepted (t_accepted T K R_stay_order R_has_moment) R_accepted) : FO P w K mg base 4 (He.fAd K ("accepted", none)) ["stays", "count"] (SpX T K (He.ga K) R_accepted) :=
  FO.ofX c sc_accepted (fun _ _ _ _ _ _ us hl => match us, hl with | [_, _], _ => rfl) hR (b_accepted V F_stay_order F_has_moment TB hmT hu) hw
abbrev N_most_bookings : List Str := ["stays", "count"]
def t_most_bookings (T : Tbs) (K : PySem.W.Frag) (R_accepted R_need_shared : List D → Res → Prop) (W : WX) : TS := tSeq (tDrop (tCallS (SpX T K (He.ga K) R_need_shared) (WE W) (tCons (tVar 0) (tCons (tVar 1) (tCons (tC (.str "stays")) (tNil)))))) (tRet (tCallS (SpX T K (He.ga K) R_accepted) (WE W) (tCons (tVar 0) (tCons (tVar 1) (tNil)))))
theorem sc_most_bookings : FnScope N_most_bookings ["stays", "count"] (defScope s_most_bookings) := ⟨rfl, rfl, rfl, by decide +kernel, rfl, by decide +kernel, by decide +kernel⟩
theorem b_most_bookings {R_accepted R_need_shared : List D → Res → Prop} (V : Nv K mg) (F_accepted : FO P w K mg base 4 (He.fAd K ("accepted", none)) ["stays", "count"] (SpX T K (He.ga K) R_accepted)) (F_need_shared : FO P w K mg base 7 (He.fAd K ("need_shared", none)) ["stays", "count", "what"] (SpX T K (He.ga K) R_need_shared)) : BodyOk P w K mg base 7 N_most_bookings "most_bookings" (defScope s_most_bookings) ("most_bookings", none) (defBody s_most_bookings) (t_most_bookings T K R_accepted R_need_shared) := fun A outer s H E hr =>
  pss_cons (ps_expr (pe_fo F_need_shared hr (by decide) rfl V.g_need_shared (takes_of rfl rfl rfl rfl) (pa_cons (pv 0) (pa_cons (pv 1) (pa_cons (pe_str) (pa_nil)))))) (pss_one (ps_ret (pe_fo F_accepted hr (by decide) rfl V.g_accepted (takes_of rfl rfl rfl rfl) (pa_cons (pv 0) (pa_cons (pv 1) (pa_nil))))))
theorem fo_most_bookings {R_accepted R_need_shared : List D → Res → Prop} {R_most_bookings : List D → Res → Prop} (c : ∃ fd, FunD K "most_bookings" "most_bookings" (defArgs s_most_bookings) (defBody s_most_bookings) (defScope s_most_bookings) [] [] (He.fAd K ("most_bookings", none)) fd) (V : Nv K mg) (F_accepted : FO P w K mg base 4 (He.fAd K ("accepted", none)) ["stays", "count"] (SpX T K (He.ga K) R_accepted)) (F_need_shared : FO P w K mg base 7 (He.fAd K ("need_shared", none)) ["stays", "count", "what"] (SpX T K (He.ga K) R_need_shared)) (hR : ∀ ds r, R_most_bookings ds r → ds.length = 2) (hw : Walks T K N_most_bookings (t_most_bookings T K R_accepted R_need_shared) R_most_bookings) : FO P w K mg base 8 (He.fAd K ("most_bookings", none)) ["stays", "count"] (SpX T K (He.ga K) R_most_bookings) :=
  FO.ofX c sc_most_bookings (fun _ _ _ _ _ _ us hl => match us, hl with | [_, _], _ => rfl) hR (b_most_bookings V F_accepted F_need_shared) hw
abbrev N_is_accepted : List Str := ["stays", "count", "members", "number", "start", "member"]
def t_is_accepted (T : Tbs) (K : PySem.W.Frag) (R_has_moment R_is_ascending R_need_shared : List D → Res → Prop) (W : WX) : TS := tSeq (tDrop (tCallS (SpX T K (He.ga K) R_need_shared) (WE W) (tCons (tVar 0) (tCons (tVar 1) (tCons (tC (.str "stays")) (tNil)))))) (tSeq (tIfS (tNot (tB (tCallS (SpX T K (He.ga K) R_is_ascending) (WE W) (tCons (tVar 2) (tCons (tC (.int 0)) (tCons (tOp (XL.rSub) (tCB (XL.rLen K) (tCons (tVar 0) (tNil))) (tC (.int 1))) (tNil))))))) (tRet (tC (.bl false))) (tNext)) (tSeq (tFor (iList K (tVar 2)) (gName 3) (tSeq (tAsg (tOp (rIx K) (tOp (rIx K) (tVar 0) (tVar 3)) (tC (.int 0))) (gName 4)) (tIfS (tTest (tOp (XL.rGt) (tCB (XL.rLen K) (tCons (tLc (iList K (tVar 2)) (gName 5) (tB (tCall (SpX T K (He.ga K) R_has_moment) [] E0 (tCons (tOp (rIx K) (tVar 0) (tVar 5)) (tCons (tVar 4) (tNil))))) (tVar 5) [5]) (tNil))) (tVar 1))) (tRet (tC (.bl false))) (tNext)))) (tRet (tC (.bl true)))))
theorem sc_is_accepted : FnScope N_is_accepted ["stays", "count", "members"] (defScope s_is_accepted) := ⟨rfl, rfl, rfl, by decide +kernel, rfl, by decide +kernel, by decide +kernel⟩
theorem b_is_accepted {R_has_moment R_is_ascending R_need_shared : List D → Res → Prop} (V : Nv K mg) (F_has_moment : FO P w K mg base 1 (He.fAd K ("has_moment", none)) ["stay", "moment"] (SpX T K (He.ga K) R_has_moment)) (F_is_ascending : FO P w K mg base 3 (He.fAd K ("is_ascending", none)) ["value", "low", "high"] (SpX T K (He.ga K) R_is_ascending)) (F_need_shared : FO P w K mg base 7 (He.fAd K ("need_shared", none)) ["stays", "count", "what"] (SpX T K (He.ga K) R_need_shared)) : BodyOk P w K mg base 7 N_is_accepted "is_accepted" (defScope s_is_accepted) ("is_accepted", none) (defBody s_is_accepted) (t_is_accepted T K R_has_moment R_is_ascending R_need_shared) := fun A outer s H E hr =>
  pss_cons (ps_expr (pe_fo F_need_shared hr (by decide) rfl V.g_need_shared (takes_of rfl rfl rfl rfl) (pa_cons (pv 0) (pa_cons (pv 1) (pa_cons (pe_str) (pa_nil)))))) (pss_cons (ps_if (pt_not (pt_val (pe_fo F_is_ascending hr (by decide) rfl V.g_is_ascending (takes_of rfl rfl rfl rfl) (pa_cons (pv 2) (pa_cons (pe_int) (pa_cons (pe_op o_sub (pe_callB c_len rfl V.b_len boot_len (pa_cons (pv 0) (pa_nil))) (pe_int)) (pa_nil))))))) (pss_one (ps_ret (pe_bl))) (pss_nil)) (pss_cons (ps_for (passes_of rfl) rfl (pi_list (pv 2)) (pg_name (i := 3) sc_is_accepted.nd rfl (by first | exact Or.inl rfl | exact Or.inr rfl)) (pss_cons (ps_set (i := 4) sc_is_accepted.nd rfl (by first | exact Or.inl rfl | exact Or.inr rfl) (pe_ix ix_seq (pe_ix ix_seq (pv 0) (pv 3) (fun _ _ => rfl)) (pe_int) (fun _ _ => rfl))) (pss_one (ps_if (pt_cmpR o_gt (pe_callB c_len rfl V.b_len boot_len (pa_cons (pe_lc (own := [("member", 5)]) (g := gName 5) rfl sc_is_accepted.nd (pi_list (pv 2)) (blkOk_by (own := [("member", 5)]) (N := N_is_accepted) (sc := defScope s_is_accepted) (by decide +kernel)) (fun _ _ _ _ _ => pg_name (i := 5) sc_is_accepted.nd rfl (Or.inl rfl)) (fun _ _ _ _ _ => pts_one (pt_val (pe_fo0 F_has_moment hr (by decide) rfl V.g_has_moment (pa_cons (pe_ix ix_seq (pv 0) (pv 5) (fun _ _ => rfl)) (pa_cons (pv 4) (pa_nil)))))) (fun _ _ _ _ _ => pv 5)) (pa_nil))) (pv 1) (nomark _)) (pss_one (ps_ret (pe_bl))) (pss_nil))))) (pss_one (ps_ret (pe_bl)))))
theorem fo_is_accepted {R_has_moment R_is_ascending R_need_shared : List D → Res → Prop} {R_is_accepted : List D → Res → Prop} (c : ∃ fd, FunD K "is_accepted" "is_accepted" (defArgs s_is_accepted) (defBody s_is_accepted) (defScope s_is_accepted) [] [] (He.fAd K ("is_accepted", none)) fd) (V : Nv K mg) (F_has_moment : FO P w K mg base 1 (He.fAd K ("has_moment", none)) ["stay", "moment"] (SpX T K (He.ga K) R_has_moment)) (F_is_ascending : FO P w K mg base 3 (He.fAd K ("is_ascending", none)) ["value", "low", "high"] (SpX T K (He.ga K) R_is_ascending)) (F_need_shared : FO P w K mg base 7 (He.fAd K ("need_shared", none)) ["stays", "count", "what"] (SpX T K (He.ga K) R_need_shared)) (hR : ∀ ds r, R_is_accepted ds r → ds.length = 3) (hw : Walks T K N_is_accepted (t_is_accepted T K R_has_moment R_is_ascending R_need_shared) R_is_accepted) : FO P w K mg base 8 (He.fAd K ("is_accepted", none)) ["stays", "count", "members"] (SpX T K (He.ga K) R_is_accepted) :=
  FO.ofX c sc_is_accepted (fun _ _ _ _ _ _ us hl => match us, hl with | [_, _, _], _ => rfl) hR (b_is_accepted V F_has_moment F_is_ascending F_need_shared) hw
abbrev N__law_cell : List Str := ["script", "k"]
def t__law_cell (T : Tbs) (K : PySem.W.Frag) (W : WX) : TS := tSeq (tIfS (tTest (tOp (XL.rLt) (tVar 1) (tCB (XL.rLen K) (tCons (tVar 0) (tNil))))) (tRet (tCB (XL.rInt) (tCons (tOp (rIx K) (tVar 0) (tVar 1)) (tNil)))) (tNext)) (tSeq (tIfS (tTest (tOp (XL.rGt) (tCB (XL.rLen K) (tCons (tVar 0) (tNil))) (tC (.int 0)))) (tRet (tOp (XL.rAdd K) (tOp (XL.rMul) (tOp (XL.rMod) (tCB (XL.rInt) (tCons (tOp (rIx K) (tVar 0) (tC (.int 0))) (tNil))) (tC (.int 1000003))) (tC (.int 97))) (tOp (XL.rMul) (tC (.int 31)) (tVar 1)))) (tNext)) (tRet (tOp (XL.rMul) (tC (.int 31)) (tVar 1))))
theorem sc__law_cell : FnScope N__law_cell ["script", "k"] (defScope s__law_cell) := ⟨rfl, rfl, rfl, by decide +kernel, rfl, by decide +kernel, by decide +kernel⟩
theorem b__law_cell (V : Nv K mg) : BodyOk P w K mg base 0 N__law_cell "_law_cell" (defScope s__law_cell) ("_law_cell", none) (defBody s__law_cell) (t__law_cell T K) := fun A outer s H E hr =>
  pss_cons (ps_if (pt_cmpR o_lt (pv 1) (pe_callB c_len rfl V.b_len boot_len (pa_cons (pv 0) (pa_nil))) (nomark _)) (pss_one (ps_ret (pe_callTy c_int rfl V.b_int boot_int (pa_cons (pe_ix ix_seq (pv 0) (pv 1) (fun _ _ => rfl)) (pa_nil))))) (pss_nil)) (pss_cons (ps_if (pt_cmpR o_gt (pe_callB c_len rfl V.b_len boot_len (pa_cons (pv 0) (pa_nil))) (pe_int) (nomark _)) (pss_one (ps_ret (pe_op o_add (pe_op o_mul (pe_op o_mod (pe_callTy c_int rfl V.b_int boot_int (pa_cons (pe_ix ix_seq (pv 0) (pe_int) (fun _ _ => rfl)) (pa_nil))) (pe_int)) (pe_int)) (pe_op o_mul (pe_int) (pv 1))))) (pss_nil)) (pss_one (ps_ret (pe_op o_mul (pe_int) (pv 1)))))
theorem fo__law_cell {R__law_cell : List D → Res → Prop} (c : ∃ fd, FunD K "_law_cell" "_law_cell" (defArgs s__law_cell) (defBody s__law_cell) (defScope s__law_cell) [] [] (He.fAd K ("_law_cell", none)) fd) (V : Nv K mg) (hR : ∀ ds r, R__law_cell ds r → ds.length = 2) (hw : Walks T K N__law_cell (t__law_cell T K) R__law_cell) : FO P w K mg base 1 (He.fAd K ("_law_cell", none)) ["script", "k"] (SpX T K (He.ga K) R__law_cell) :=
  FO.ofX c sc__law_cell (fun _ _ _ _ _ _ us hl => match us, hl with | [_, _], _ => rfl) hR (b__law_cell V) hw
abbrev N__law_row : List Str := ["cell", "many", "limit", "rest", "numbers", "k", "state"]
def t__law_row (T : Tbs) (K : PySem.W.Frag) (W : WX) : TS := tSeq (tAsg (tCB (XL.rAbs) (tCons (tVar 0) (tNil))) (gName 3)) (tSeq (tAsg (tLst (tNil)) (gName 4)) (tSeq (tIfS (tTest (tOp (XL.rGe) (tVar 3) (tOp (XL.rPow) (tC (.int 10)) (tC (.int 18))))) (tSeq (tAsg (tOp (XL.rSub) (tVar 3) (tOp (XL.rPow) (tC (.int 10)) (tC (.int 18)))) (gName 3)) (tSeq (tFor (iRng1 (tCons (tVar 1) (tNil))) (gName 5) (tSeq (tDrop (tBM K "list" rAppend (tVar 4) (tCons (tOp (XL.rMod) (tCB (XL.rInt) (tCons (tVar 3) (tNil))) (tVar 2)) (tNil)))) (tAsg (tOp (XL.rDiv) (tVar 3) (tVar 2)) (gName 3)))) (tRet (tVar 4)))) (tNext)) (tSeq (tAsg (tOp (XL.rMod) (tCB (XL.rInt) (tCons (tOp (XL.rAdd K) (tOp (XL.rMul) (tVar 3) (tC (.int 48271))) (tC (.int 11))) (tNil))) (tC (.int 2147483647))) (gName 6)) (tSeq (tFor (iRng1 (tCons (tVar 1) (tNil))) (gName 5) (tSeq (tAsg (tOp (XL.rMod) (tCB (XL.rInt) (tCons (tOp (XL.rAdd K) (tOp (XL.rAdd K) (tOp (XL.rMul) (tVar 6) (tC (.int 69621))) (tOp (XL.rMul) (tVar 5) (tC (.int 48271)))) (tVar 3)) (tNil))) (tC (.int 2147483629))) (gName 6)) (tDrop (tBM K "list" rAppend (tVar 4) (tCons (tOp (XL.rMod) (tCB (XL.rInt) (tCons (tOp (XL.rDiv) (tVar 6) (tC (.int 7))) (tNil))) (tVar 2)) (tNil)))))) (tRet (tVar 4))))))
theorem sc__law_row : FnScope N__law_row ["cell", "many", "limit"] (defScope s__law_row) := ⟨rfl, rfl, rfl, by decide +kernel, rfl, by decide +kernel, by decide +kernel⟩
theorem b__law_row (V : Nv K mg) : BodyOk P w K mg base 0 N__law_row "_law_row" (defScope s__law_row) ("_law_row", none) (defBody s__law_row) (t__law_row T K) := fun A outer s H E hr =>
  pss_cons (ps_set (i := 3) sc__law_row.nd rfl (by first | exact Or.inl rfl | exact Or.inr rfl) (pe_callB c_abs rfl V.b_abs boot_abs (pa_cons (pv 0) (pa_nil)))) (pss_cons (ps_set (i := 4) sc__law_row.nd rfl (by first | exact Or.inl rfl | exact Or.inr rfl) (pe_lst (pa_nil))) (pss_cons (ps_if (pt_cmpR o_ge (pv 3) (pe_op o_pow (pe_int) (pe_int)) (nomark _)) (pss_cons (ps_set (i := 3) sc__law_row.nd rfl (by first | exact Or.inl rfl | exact Or.inr rfl) (pe_op o_sub (pv 3) (pe_op o_pow (pe_int) (pe_int)))) (pss_cons (ps_for (passes_of rfl) rfl (pi_range1 rfl V.b_range (pa_cons (pv 1) (pa_nil))) (pg_name (i := 5) sc__law_row.nd rfl (by first | exact Or.inl rfl | exact Or.inr rfl)) (pss_cons (ps_expr (pe_bm PySem.F.plainAttrs_list PySem.F.slot_list_append PySem.F.type_list_append mt_append (pv 4) (pa_cons (pe_op o_mod (pe_callTy c_int rfl V.b_int boot_int (pa_cons (pv 3) (pa_nil))) (pv 2)) (pa_nil)))) (pss_one (ps_set (i := 3) sc__law_row.nd rfl (by first | exact Or.inl rfl | exact Or.inr rfl) (pe_op o_div (pv 3) (pv 2)))))) (pss_one (ps_ret (pv 4))))) (pss_nil)) (pss_cons (ps_set (i := 6) sc__law_row.nd rfl (by first | exact Or.inl rfl | exact Or.inr rfl) (pe_op o_mod (pe_callTy c_int rfl V.b_int boot_int (pa_cons (pe_op o_add (pe_op o_mul (pv 3) (pe_int)) (pe_int)) (pa_nil))) (pe_int))) (pss_cons (ps_for (passes_of rfl) rfl (pi_range1 rfl V.b_range (pa_cons (pv 1) (pa_nil))) (pg_name (i := 5) sc__law_row.nd rfl (by first | exact Or.inl rfl | exact Or.inr rfl)) (pss_cons (ps_set (i := 6) sc__law_row.nd rfl (by first | exact Or.inl rfl | exact Or.inr rfl) (pe_op o_mod (pe_callTy c_int rfl V.b_int boot_int (pa_cons (pe_op o_add (pe_op o_add (pe_op o_mul (pv 6) (pe_int)) (pe_op o_mul (pv 5) (pe_int))) (pv 3)) (pa_nil))) (pe_int))) (pss_one (ps_expr (pe_bm PySem.F.plainAttrs_list PySem.F.slot_list_append PySem.F.type_list_append mt_append (pv 4) (pa_cons (pe_op o_mod (pe_callTy c_int rfl V.b_int boot_int (pa_cons (pe_op o_div (pv 6) (pe_int)) (pa_nil))) (pv 2)) (pa_nil))))))) (pss_one (ps_ret (pv 4)))))))
theorem fo__law_row {R__law_row : List D → Res → Prop} (c : ∃ fd, FunD K "_law_row" "_law_row" (defArgs s__law_row) (defBody s__law_row) (defScope s__law_row) [] [] (He.fAd K ("_law_row", none)) fd) (V : Nv K mg) (hR : ∀ ds r, R__law_row ds r → ds.length = 3) (hw : Walks T K N__law_row (t__law_row T K) R__law_row) : FO P w K mg base 1 (He.fAd K ("_law_row", none)) ["cell", "many", "limit"] (SpX T K (He.ga K) R__law_row) :=
  FO.ofX c sc__law_row (fun _ _ _ _ _ _ us hl => match us, hl with | [_, _, _], _ => rfl) hR (b__law_row V) hw
abbrev N__law_stays : List Str := ["script", "at", "many", "shape", "wide", "far", "base", "starts", "lengths", "k"]
def t__law_stays (T : Tbs) (K : PySem.W.Frag) (R__law_row R__law_cell : List D → Res → Prop) (W : WX) : TS := tSeq (tAsg (tOp (XL.rMod) (tCB (XL.rInt) (tCons (tOp (rIx K) (tCallS (SpX T K (He.ga K) R__law_row) (WE W) (tCons (tCallS (SpX T K (He.ga K) R__law_cell) (WE W) (tCons (tVar 0) (tCons (tVar 1) (tNil)))) (tCons (tC (.int 1)) (tCons (tC (.int 60)) (tNil))))) (tC (.int 0))) (tNil))) (tC (.int 4))) (gName 3)) (tSeq (tAsg (tOp (rIx K) (tLst (tCons (tC (.int 8)) (tCons (tC (.int 40)) (tCons (tC (.int 1000000)) (tCons (tC (.int 8)) (tNil)))))) (tVar 3)) (gName 4)) (tSeq (tAsg (tOp (rIx K) (tLst (tCons (tC (.int 6)) (tCons (tC (.int 25)) (tCons (tC (.int 1000000)) (tCons (tC (.int 6)) (tNil)))))) (tVar 3)) (gName 5)) (tSeq (tAsg (tOp (rIx K) (tLst (tCons (tC (.int 0)) (tCons (tC (.int 0)) (tCons (tC (.int 0)) (tCons (tC (.int 999990)) (tNil)))))) (tVar 3)) (gName 6)) (tSeq (tAsg (tCallS (SpX T K (He.ga K) R__law_row) (WE W) (tCons (tCallS (SpX T K (He.ga K) R__law_cell) (WE W) (tCons (tVar 0) (tCons (tOp (XL.rAdd K) (tVar 1) (tC (.int 1))) (tNil)))) (tCons (tVar 2) (tCons (tVar 4) (tNil))))) (gName 7)) (tSeq (tAsg (tCallS (SpX T K (He.ga K) R__law_row) (WE W) (tCons (tCallS (SpX T K (He.ga K) R__law_cell) (WE W) (tCons (tVar 0) (tCons (tOp (XL.rAdd K) (tVar 1) (tC (.int 2))) (tNil)))) (tCons (tVar 2) (tCons (tVar 5) (tNil))))) (gName 8)) (tRet (tLc (iRng1 (tCons (tVar 2) (tNil))) (gName 9) (tYes) (tTup (tCons (tOp (XL.rAdd K) (tVar 6) (tOp (rIx K) (tVar 7) (tVar 9))) (tCons (tCB (XL.rMn K) (tCons (tC (.int 1000000)) (tCons (tOp (XL.rAdd K) (tOp (XL.rAdd K) (tOp (XL.rAdd K) (tVar 6) (tOp (rIx K) (tVar 7) (tVar 9))) (tC (.int 1))) (tOp (rIx K) (tVar 8) (tVar 9))) (tNil)))) (tNil)))) [9])))))))
theorem sc__law_stays : FnScope N__law_stays ["script", "at", "many"] (defScope s__law_stays) := ⟨rfl, rfl, rfl, by decide +kernel, rfl, by decide +kernel, by decide +kernel⟩
theorem b__law_stays {R__law_row R__law_cell : List D → Res → Prop} (V : Nv K mg) (F__law_row : FO P w K mg base 1 (He.fAd K ("_law_row", none)) ["cell", "many", "limit"] (SpX T K (He.ga K) R__law_row)) (F__law_cell : FO P w K mg base 1 (He.fAd K ("_law_cell", none)) ["script", "k"] (SpX T K (He.ga K) R__law_cell)) : BodyOk P w K mg base 1 N__law_stays "_law_stays" (defScope s__law_stays) ("_law_stays", none) (defBody s__law_stays) (t__law_stays T K R__law_row R__law_cell) := fun A outer s H E hr =>
  pss_cons (ps_set (i := 3) sc__law_stays.nd rfl (by first | exact Or.inl rfl | exact Or.inr rfl) (pe_op o_mod (pe_callTy c_int rfl V.b_int boot_int (pa_cons (pe_ix ix_seq (pe_fo F__law_row hr (by decide) rfl V.g__law_row (takes_of rfl rfl rfl rfl) (pa_cons (pe_fo F__law_cell hr (by decide) rfl V.g__law_cell (takes_of rfl rfl rfl rfl) (pa_cons (pv 0) (pa_cons (pv 1) (pa_nil)))) (pa_cons (pe_int) (pa_cons (pe_int) (pa_nil))))) (pe_int) (fun _ _ => rfl)) (pa_nil))) (pe_int))) (pss_cons (ps_set (i := 4) sc__law_stays.nd rfl (by first | exact Or.inl rfl | exact Or.inr rfl) (pe_ix ix_seq (pe_lst (pa_cons (pe_int) (pa_cons (pe_int) (pa_cons (pe_int) (pa_cons (pe_int) (pa_nil)))))) (pv 3) (fun _ _ => rfl))) (pss_cons (ps_set (i := 5) sc__law_stays.nd rfl (by first | exact Or.inl rfl | exact Or.inr rfl) (pe_ix ix_seq (pe_lst (pa_cons (pe_int) (pa_cons (pe_int) (pa_cons (pe_int) (pa_cons (pe_int) (pa_nil)))))) (pv 3) (fun _ _ => rfl))) (pss_cons (ps_set (i := 6) sc__law_stays.nd rfl (by first | exact Or.inl rfl | exact Or.inr rfl) (pe_ix ix_seq (pe_lst (pa_cons (pe_int) (pa_cons (pe_int) (pa_cons (pe_int) (pa_cons (pe_int) (pa_nil)))))) (pv 3) (fun _ _ => rfl))) (pss_cons (ps_set (i := 7) sc__law_stays.nd rfl (by first | exact Or.inl rfl | exact Or.inr rfl) (pe_fo F__law_row hr (by decide) rfl V.g__law_row (takes_of rfl rfl rfl rfl) (pa_cons (pe_fo F__law_cell hr (by decide) rfl V.g__law_cell (takes_of rfl rfl rfl rfl) (pa_cons (pv 0) (pa_cons (pe_op o_add (pv 1) (pe_int)) (pa_nil)))) (pa_cons (pv 2) (pa_cons (pv 4) (pa_nil)))))) (pss_cons (ps_set (i := 8) sc__law_stays.nd rfl (by first | exact Or.inl rfl | exact Or.inr rfl) (pe_fo F__law_row hr (by decide) rfl V.g__law_row (takes_of rfl rfl rfl rfl) (pa_cons (pe_fo F__law_cell hr (by decide) rfl V.g__law_cell (takes_of rfl rfl rfl rfl) (pa_cons (pv 0) (pa_cons (pe_op o_add (pv 1) (pe_int)) (pa_nil)))) (pa_cons (pv 2) (pa_cons (pv 5) (pa_nil)))))) (pss_one (ps_ret (pe_lc (own := [("k", 9)]) (g := gName 9) rfl sc__law_stays.nd (pi_range1 rfl V.b_range (pa_cons (pv 2) (pa_nil))) (blkOk_by (own := [("k", 9)]) (N := N__law_stays) (sc := defScope s__law_stays) (by decide +kernel)) (fun _ _ _ _ _ => pg_name (i := 9) sc__law_stays.nd rfl (Or.inl rfl)) (fun _ _ _ _ _ => pts_nil) (fun _ _ _ _ _ => pe_tup (pa_cons (pe_op o_add (pv 6) (pe_ix ix_seq (pv 7) (pv 9) (fun _ _ => rfl))) (pa_cons (pe_callB (c_min rfl) rfl V.b_min boot_min (pa_cons (pe_int) (pa_cons (pe_op o_add (pe_op o_add (pe_op o_add (pv 6) (pe_ix ix_seq (pv 7) (pv 9) (fun _ _ => rfl))) (pe_int)) (pe_ix ix_seq (pv 8) (pv 9) (fun _ _ => rfl))) (pa_nil)))) (pa_nil))))))))))))
theorem fo__law_stays {R__law_row R__law_cell : List D → Res → Prop} {R__law_stays : List D → Res → Prop} (c : ∃ fd, FunD K "_law_stays" "_law_stays" (defArgs s__law_stays) (defBody s__law_stays) (defScope s__law_stays) [] [] (He.fAd K ("_law_stays", none)) fd) (V : Nv K mg) (F__law_row : FO P w K mg base 1 (He.fAd K ("_law_row", none)) ["cell", "many", "limit"] (SpX T K (He.ga K) R__law_row)) (F__law_cell : FO P w K mg base 1 (He.fAd K ("_law_cell", none)) ["script", "k"] (SpX T K (He.ga K) R__law_cell)) (hR : ∀ ds r, R__law_stays ds r → ds.length = 3) (hw : Walks T K N__law_stays (t__law_stays T K R__law_row R__law_cell) R__law_stays) : FO P w K mg base 2 (He.fAd K ("_law_stays", none)) ["script", "at", "many"] (SpX T K (He.ga K) R__law_stays) :=
  FO.ofX c sc__law_stays (fun _ _ _ _ _ _ us hl => match us, hl with | [_, _, _], _ => rfl) hR (b__law_stays V F__law_row F__law_cell) hw
abbrev N__law_whole : List Str := ["value"]
def t__law_whole (T : Tbs) (K : PySem.W.Frag) (W : WX) : TS := tRet (tAndV (tCB (rIsi K) (tCons (tVar 0) (tCons (tC (.ty "int")) tNil))) (tNotV (tCB (rIsi K) (tCons (tVar 0) (tCons (tC (.ty "bool")) tNil)))))
theorem sc__law_whole : FnScope N__law_whole ["value"] (defScope s__law_whole) := ⟨rfl, rfl, rfl, by decide +kernel, rfl, by decide +kernel, by decide +kernel⟩
theorem b__law_whole (V : Nv K mg) : BodyOk P w K mg base 0 N__law_whole "_law_whole" (defScope s__law_whole) ("_law_whole", none) (defBody s__law_whole) (t__law_whole T K) := fun A outer s H E hr =>
  pss_one (ps_ret (pe_and (pe_callB call_isi rfl V.b_isinstance boot_isinstance (pa_cons (pv 0) (pa_cons (pe_bltn rfl V.b_int boot_int rfl) pa_nil))) (pe_one (pe_not (pe_callB call_isi rfl V.b_isinstance boot_isinstance (pa_cons (pv 0) (pa_cons (pe_bltn rfl V.b_bool boot_bool rfl) pa_nil)))))))
theorem fo__law_whole {R__law_whole : List D → Res → Prop} (c : ∃ fd, FunD K "_law_whole" "_law_whole" (defArgs s__law_whole) (defBody s__law_whole) (defScope s__law_whole) [] [] (He.fAd K ("_law_whole", none)) fd) (V : Nv K mg) (hR : ∀ ds r, R__law_whole ds r → ds.length = 1) (hw : Walks T K N__law_whole (t__law_whole T K) R__law_whole) : FO P w K mg base 1 (He.fAd K ("_law_whole", none)) ["value"] (SpX T K (He.ga K) R__law_whole) :=
  FO.ofX c sc__law_whole (fun _ _ _ _ _ _ us hl => match us, hl with | [_], _ => rfl) hR (b__law_whole V) hw
abbrev N__law_holds : List Str := ["stay", "moment"]
def t__law_holds (T : Tbs) (K : PySem.W.Frag) (W : WX) : TS := tRet (tAndV (tOp (XL.rLe) (tOp (rIx K) (tVar 0) (tC (.int 0))) (tVar 1)) (tOp (XL.rLt) (tVar 1) (tOp (rIx K) (tVar 0) (tC (.int 1)))))
theorem sc__law_holds : FnScope N__law_holds ["stay", "moment"] (defScope s__law_holds) := ⟨rfl, rfl, rfl, by decide +kernel, rfl, by decide +kernel, by decide +kernel⟩
theorem b__law_holds (V : Nv K mg) : BodyOk P w K mg base 0 N__law_holds "_law_holds" (defScope s__law_holds) ("_law_holds", none) (defBody s__law_holds) (t__law_holds T K) := fun A outer s H E hr =>
  pss_one (ps_ret (pe_and (pe_cmpR o_le (pe_ix ix_seq (pv 0) (pe_int) (fun _ _ => rfl)) (pv 1) (nomark _)) (pe_one (pe_cmpR o_lt (pv 1) (pe_ix ix_seq (pv 0) (pe_int) (fun _ _ => rfl)) (nomark _)))))
theorem fo__law_holds {R__law_holds : List D → Res → Prop} (c : ∃ fd, FunD K "_law_holds" "_law_holds" (defArgs s__law_holds) (defBody s__law_holds) (defScope s__law_holds) [] [] (He.fAd K ("_law_holds", none)) fd) (V : Nv K mg) (hR : ∀ ds r, R__law_holds ds r → ds.length = 2) (hw : Walks T K N__law_holds (t__law_holds T K) R__law_holds) : FO P w K mg base 1 (He.fAd K ("_law_holds", none)) ["stay", "moment"] (SpX T K (He.ga K) R__law_holds) :=
  FO.ofX c sc__law_holds (fun _ _ _ _ _ _ us hl => match us, hl with | [_, _], _ => rfl) hR (b__law_holds V) hw
abbrev N__law_load : List Str := ["stays", "moment", "stay"]
def t__law_load (T : Tbs) (K : PySem.W.Frag) (R__law_holds : List D → Res → Prop) (W : WX) : TS := tRet (tCB (XL.rLen K) (tCons (tLc (iList K (tVar 0)) (gName 2) (tB (tCall (SpX T K (He.ga K) R__law_holds) [] E0 (tCons (tVar 2) (tCons (tVar 1) (tNil))))) (tVar 2) [2]) (tNil)))
theorem sc__law_load : FnScope N__law_load ["stays", "moment"] (defScope s__law_load) := ⟨rfl, rfl, rfl, by decide +kernel, rfl, by decide +kernel, by decide +kernel⟩
theorem b__law_load {R__law_holds : List D → Res → Prop} (V : Nv K mg) (F__law_holds : FO P w K mg base 1 (He.fAd K ("_law_holds", none)) ["stay", "moment"] (SpX T K (He.ga K) R__law_holds)) : BodyOk P w K mg base 1 N__law_load "_law_load" (defScope s__law_load) ("_law_load", none) (defBody s__law_load) (t__law_load T K R__law_holds) := fun A outer s H E hr =>
  pss_one (ps_ret (pe_callB c_len rfl V.b_len boot_len (pa_cons (pe_lc (own := [("stay", 2)]) (g := gName 2) rfl sc__law_load.nd (pi_list (pv 0)) (blkOk_by (own := [("stay", 2)]) (N := N__law_load) (sc := defScope s__law_load) (by decide +kernel)) (fun _ _ _ _ _ => pg_name (i := 2) sc__law_load.nd rfl (Or.inl rfl)) (fun _ _ _ _ _ => pts_one (pt_val (pe_fo0 F__law_holds hr (by decide) rfl V.g__law_holds (pa_cons (pv 2) (pa_cons (pv 1) (pa_nil)))))) (fun _ _ _ _ _ => pv 2)) (pa_nil))))
theorem fo__law_load {R__law_holds : List D → Res → Prop} {R__law_load : List D → Res → Prop} (c : ∃ fd, FunD K "_law_load" "_law_load" (defArgs s__law_load) (defBody s__law_load) (defScope s__law_load) [] [] (He.fAd K ("_law_load", none)) fd) (V : Nv K mg) (F__law_holds : FO P w K mg base 1 (He.fAd K ("_law_holds", none)) ["stay", "moment"] (SpX T K (He.ga K) R__law_holds)) (hR : ∀ ds r, R__law_load ds r → ds.length = 2) (hw : Walks T K N__law_load (t__law_load T K R__law_holds) R__law_load) : FO P w K mg base 2 (He.fAd K ("_law_load", none)) ["stays", "moment"] (SpX T K (He.ga K) R__law_load) :=
  FO.ofX c sc__law_load (fun _ _ _ _ _ _ us hl => match us, hl with | [_, _], _ => rfl) hR (b__law_load V F__law_holds) hw
abbrev N__law_members : List Str := ["value", "many", "last", "item"]
def t__law_members (T : Tbs) (K : PySem.W.Frag) (R__law_whole : List D → Res → Prop) (W : WX) : TS := tSeq (tIfS (tNot (tB (tCB (rIsi K) (tCons (tVar 0) (tCons (tC (.ty "list")) tNil))))) (tRet (tC (.bl false))) (tNext)) (tSeq (tAsg (tUn XL.rNeg (tC (.int 1))) (gName 2)) (tSeq (tFor (iList K (tVar 0)) (gName 3) (tSeq (tIfS (tOr (tNot (tB (tCallS (SpX T K (He.ga K) R__law_whole) (WE W) (tCons (tVar 3) (tNil))))) (tOr (tTest (tOp (XL.rLe) (tVar 3) (tVar 2))) (tTest (tOp (XL.rGe) (tVar 3) (tVar 1))))) (tRet (tC (.bl false))) (tNext)) (tAsg (tVar 3) (gName 2)))) (tRet (tC (.bl true)))))
theorem sc__law_members : FnScope N__law_members ["value", "many"] (defScope s__law_members) := ⟨rfl, rfl, rfl, by decide +kernel, rfl, by decide +kernel, by decide +kernel⟩
theorem b__law_members {R__law_whole : List D → Res → Prop} (V : Nv K mg) (F__law_whole : FO P w K mg base 1 (He.fAd K ("_law_whole", none)) ["value"] (SpX T K (He.ga K) R__law_whole)) : BodyOk P w K mg base 1 N__law_members "_law_members" (defScope s__law_members) ("_law_members", none) (defBody s__law_members) (t__law_members T K R__law_whole) := fun A outer s H E hr =>
  pss_cons (ps_if (pt_not (pt_val (pe_callB call_isi rfl V.b_isinstance boot_isinstance (pa_cons (pv 0) (pa_cons (pe_bltn rfl V.b_list boot_list rfl) pa_nil))))) (pss_one (ps_ret (pe_bl))) (pss_nil)) (pss_cons (ps_set (i := 2) sc__law_members.nd rfl (by first | exact Or.inl rfl | exact Or.inr rfl) (pe_un u_neg (pe_int))) (pss_cons (ps_for (passes_of rfl) rfl (pi_list (pv 0)) (pg_name (i := 3) sc__law_members.nd rfl (by first | exact Or.inl rfl | exact Or.inr rfl)) (pss_cons (ps_if (PW.pt (pw_or (pt_not (pt_val (pe_fo F__law_whole hr (by decide) rfl V.g__law_whole (takes_of rfl rfl rfl rfl) (pa_cons (pv 3) (pa_nil))))) (pw_or (pt_cmpR o_le (pv 3) (pv 2) (nomark _)) (pw_or1 (pt_cmpR o_ge (pv 3) (pv 1) (nomark _)))))) (pss_one (ps_ret (pe_bl))) (pss_nil)) (pss_one (ps_set (i := 2) sc__law_members.nd rfl (by first | exact Or.inl rfl | exact Or.inr rfl) (pv 3))))) (pss_one (ps_ret (pe_bl)))))
theorem fo__law_members {R__law_whole : List D → Res → Prop} {R__law_members : List D → Res → Prop} (c : ∃ fd, FunD K "_law_members" "_law_members" (defArgs s__law_members) (defBody s__law_members) (defScope s__law_members) [] [] (He.fAd K ("_law_members", none)) fd) (V : Nv K mg) (F__law_whole : FO P w K mg base 1 (He.fAd K ("_law_whole", none)) ["value"] (SpX T K (He.ga K) R__law_whole)) (hR : ∀ ds r, R__law_members ds r → ds.length = 2) (hw : Walks T K N__law_members (t__law_members T K R__law_whole) R__law_members) : FO P w K mg base 2 (He.fAd K ("_law_members", none)) ["value", "many"] (SpX T K (He.ga K) R__law_members) :=
  FO.ofX c sc__law_members (fun _ _ _ _ _ _ us hl => match us, hl with | [_, _], _ => rfl) hR (b__law_members V F__law_whole) hw
abbrev N__law_booked : List Str := ["stays", "count", "members", "pair", "k", "present"]
def t__law_booked (T : Tbs) (K : PySem.W.Frag) (R__law_holds : List D → Res → Prop) (W : WX) : TS := tSeq (tAsg (tLst (tNil)) (gName 2)) (tSeq (tFor (iList K (tCB (XL.rSrt K) (tCons (tLc (iRng1 (tCons (tCB (XL.rLen K) (tCons (tVar 0) (tNil))) (tNil))) (gName 4) (tYes) (tTup (tCons (tOp (rIx K) (tOp (rIx K) (tVar 0) (tVar 4)) (tC (.int 0))) (tCons (tVar 4) (tNil)))) [4]) (tNil)))) (gName 3) (tSeq (tDrop (tBM K "list" rAppend (tVar 2) (tCons (tOp (rIx K) (tVar 3) (tC (.int 1))) (tNil)))) (tSeq (tAsg (tLc (iList K (tVar 2)) (gName 4) (tB (tCall (SpX T K (He.ga K) R__law_holds) [] E0 (tCons (tOp (rIx K) (tVar 0) (tVar 4)) (tCons (tOp (rIx K) (tVar 3) (tC (.int 0))) (tNil))))) (tTup (tCons (tOp (rIx K) (tOp (rIx K) (tVar 0) (tVar 4)) (tC (.int 1))) (tCons (tVar 4) (tNil)))) [4]) (gName 5)) (tIfS (tTest (tOp (XL.rGt) (tCB (XL.rLen K) (tCons (tVar 5) (tNil))) (tVar 1))) (tDrop (tRemX K W (tVar 2) (tOp (rIx K) (tCB (XL.rMx3 K) (tCons (tVar 5) (tNil))) (tC (.int 1))))) (tNext))))) (tRet (tCB (XL.rSrt K) (tCons (tVar 2) (tNil)))))
theorem sc__law_booked : FnScope N__law_booked ["stays", "count"] (defScope s__law_booked) := ⟨rfl, rfl, rfl, by decide +kernel, rfl, by decide +kernel, by decide +kernel⟩
theorem b__law_booked {R__law_holds : List D → Res → Prop} (V : Nv K mg) (F__law_holds : FO P w K mg base 1 (He.fAd K ("_law_holds", none)) ["stay", "moment"] (SpX T K (He.ga K) R__law_holds)) : BodyOk P w K mg base 1 N__law_booked "_law_booked" (defScope s__law_booked) ("_law_booked", none) (defBody s__law_booked) (t__law_booked T K R__law_holds) := fun A outer s H E hr =>
  pss_cons (ps_set (i := 2) sc__law_booked.nd rfl (by first | exact Or.inl rfl | exact Or.inr rfl) (pe_lst (pa_nil))) (pss_cons (ps_for (passes_of rfl) rfl (pi_list (pe_callB c_sorted rfl V.b_sorted boot_sorted (pa_cons (pe_lc (own := [("k", 4)]) (g := gName 4) rfl sc__law_booked.nd (pi_range1 rfl V.b_range (pa_cons (pe_callB c_len rfl V.b_len boot_len (pa_cons (pv 0) (pa_nil))) (pa_nil))) (blkOk_by (own := [("k", 4)]) (N := N__law_booked) (sc := defScope s__law_booked) (by decide +kernel)) (fun _ _ _ _ _ => pg_name (i := 4) sc__law_booked.nd rfl (Or.inl rfl)) (fun _ _ _ _ _ => pts_nil) (fun _ _ _ _ _ => pe_tup (pa_cons (pe_ix ix_seq (pe_ix ix_seq (pv 0) (pv 4) (fun _ _ => rfl)) (pe_int) (fun _ _ => rfl)) (pa_cons (pv 4) (pa_nil))))) (pa_nil)))) (pg_name (i := 3) sc__law_booked.nd rfl (by first | exact Or.inl rfl | exact Or.inr rfl)) (pss_cons (ps_expr (pe_bm PySem.F.plainAttrs_list PySem.F.slot_list_append PySem.F.type_list_append mt_append (pv 2) (pa_cons (pe_ix ix_seq (pv 3) (pe_int) (fun _ _ => rfl)) (pa_nil)))) (pss_cons (ps_setLc (i := 5) (own := [("k", 4)]) (g := gName 4) rfl sc__law_booked.nd rfl rfl (sw_true rfl rfl rfl (by decide +kernel)) (pi_list (pv 2)) (blkOk_by (own := [("k", 4)]) (N := N__law_booked) (sc := defScope s__law_booked) (by decide +kernel)) (fun _ _ _ _ _ => pg_name (i := 4) sc__law_booked.nd rfl (Or.inl rfl)) (fun _ _ _ _ _ => pts_one (pt_val (pe_fo0 F__law_holds hr (by decide) rfl V.g__law_holds (pa_cons (pe_ix ix_seq (pv 0) (pv 4) (fun _ _ => rfl)) (pa_cons (pe_ix ix_seq (pv 3) (pe_int) (fun _ _ => rfl)) (pa_nil)))))) (fun _ _ _ _ _ => pe_tup (pa_cons (pe_ix ix_seq (pe_ix ix_seq (pv 0) (pv 4) (fun _ _ => rfl)) (pe_int) (fun _ _ => rfl)) (pa_cons (pv 4) (pa_nil))))) (pss_one (ps_if (pt_cmpR o_gt (pe_callB c_len rfl V.b_len boot_len (pa_cons (pv 5) (pa_nil))) (pv 1) (nomark _)) (pss_one (ps_expr (pe_remX rfl (takes_of rfl rfl rfl rfl) (pv 2) (pe_ix ix_seq (pe_callB (c_max3 rfl hr.units) rfl V.b_max boot_max (pa_cons (pv 5) (pa_nil))) (pe_int) (fun _ _ => rfl))))) (pss_nil)))))) (pss_one (ps_ret (pe_callB c_sorted rfl V.b_sorted boot_sorted (pa_cons (pv 2) (pa_nil))))))
theorem fo__law_booked {R__law_holds : List D → Res → Prop} {R__law_booked : List D → Res → Prop} (c : ∃ fd, FunD K "_law_booked" "_law_booked" (defArgs s__law_booked) (defBody s__law_booked) (defScope s__law_booked) [] [] (He.fAd K ("_law_booked", none)) fd) (V : Nv K mg) (F__law_holds : FO P w K mg base 1 (He.fAd K ("_law_holds", none)) ["stay", "moment"] (SpX T K (He.ga K) R__law_holds)) (hR : ∀ ds r, R__law_booked ds r → ds.length = 2) (hw : Walks T K N__law_booked (t__law_booked T K R__law_holds) R__law_booked) : FO P w K mg base 2 (He.fAd K ("_law_booked", none)) ["stays", "count"] (SpX T K (He.ga K) R__law_booked) :=
  FO.ofX c sc__law_booked (fun _ _ _ _ _ _ us hl => match us, hl with | [_, _], _ => rfl) hR (b__law_booked V F__law_holds) hw
abbrev N__law_is_accepted : List Str := ["stays", "count", "members", "held", "k", "stay"]
def t__law_is_accepted (T : Tbs) (K : PySem.W.Frag) (R__law_load R__law_members : List D → Res → Prop) (W : WX) : TS := tSeq (tIfS (tNot (tB (tCallS (SpX T K (He.ga K) R__law_members) (WE W) (tCons (tVar 2) (tCons (tCB (XL.rLen K) (tCons (tVar 0) (tNil))) (tNil)))))) (tRet (tC (.bl false))) (tNext)) (tSeq (tAsg (tLc (iList K (tVar 2)) (gName 4) (tYes) (tOp (rIx K) (tVar 0) (tVar 4)) [4]) (gName 3)) (tRet (tCB (rAll K) (tCons (tLc (iList K (tVar 3)) (gName 5) (tYes) (tOp (XL.rLe) (tCall (SpX T K (He.ga K) R__law_load) [] E0 (tCons (tVar 3) (tCons (tOp (rIx K) (tVar 5) (tC (.int 0))) (tNil)))) (tVar 1)) [5]) (tNil)))))
theorem sc__law_is_accepted : FnScope N__law_is_accepted ["stays", "count", "members"] (defScope s__law_is_accepted) := ⟨rfl, rfl, rfl, by decide +kernel, rfl, by decide +kernel, by decide +kernel⟩
theorem b__law_is_accepted {R__law_load R__law_members : List D → Res → Prop} (V : Nv K mg) (F__law_load : FO P w K mg base 2 (He.fAd K ("_law_load", none)) ["stays", "moment"] (SpX T K (He.ga K) R__law_load)) (F__law_members : FO P w K mg base 2 (He.fAd K ("_law_members", none)) ["value", "many"] (SpX T K (He.ga K) R__law_members)) : BodyOk P w K mg base 2 N__law_is_accepted "_law_is_accepted" (defScope s__law_is_accepted) ("_law_is_accepted", none) (defBody s__law_is_accepted) (t__law_is_accepted T K R__law_load R__law_members) := fun A outer s H E hr =>
  pss_cons (ps_if (pt_not (pt_val (pe_fo F__law_members hr (by decide) rfl V.g__law_members (takes_of rfl rfl rfl rfl) (pa_cons (pv 2) (pa_cons (pe_callB c_len rfl V.b_len boot_len (pa_cons (pv 0) (pa_nil))) (pa_nil)))))) (pss_one (ps_ret (pe_bl))) (pss_nil)) (pss_cons (ps_set (i := 3) sc__law_is_accepted.nd rfl (Or.inr rfl) (pe_lc (own := [("k", 4)]) (g := gName 4) rfl sc__law_is_accepted.nd (pi_list (pv 2)) (blkOk_by (own := [("k", 4)]) (N := N__law_is_accepted) (sc := defScope s__law_is_accepted) (by decide +kernel)) (fun _ _ _ _ _ => pg_name (i := 4) sc__law_is_accepted.nd rfl (Or.inl rfl)) (fun _ _ _ _ _ => pts_nil) (fun _ _ _ _ _ => pe_ix ix_seq (pv 0) (pv 4) (fun _ _ => rfl)))) (pss_one (ps_ret (pe_callB (cr_all rfl) rfl V.b_all boot_all (pa_cons (pe_lc (own := [("stay", 5)]) (g := gName 5) rfl sc__law_is_accepted.nd (pi_list (pv 3)) (blkOk_by (own := [("stay", 5)]) (N := N__law_is_accepted) (sc := defScope s__law_is_accepted) (by decide +kernel)) (fun _ _ _ _ _ => pg_name (i := 5) sc__law_is_accepted.nd rfl (Or.inl rfl)) (fun _ _ _ _ _ => pts_nil) (fun _ _ _ _ _ => pe_cmpR o_le (pe_fo0 F__law_load hr (by decide) rfl V.g__law_load (pa_cons (pv 3) (pa_cons (pe_ix ix_seq (pv 5) (pe_int) (fun _ _ => rfl)) (pa_nil)))) (pv 1) (nomark _))) (pa_nil))))))
theorem fo__law_is_accepted {R__law_load R__law_members : List D → Res → Prop} {R__law_is_accepted : List D → Res → Prop} (c : ∃ fd, FunD K "_law_is_accepted" "_law_is_accepted" (defArgs s__law_is_accepted) (defBody s__law_is_accepted) (defScope s__law_is_accepted) [] [] (He.fAd K ("_law_is_accepted", none)) fd) (V : Nv K mg) (F__law_load : FO P w K mg base 2 (He.fAd K ("_law_load", none)) ["stays", "moment"] (SpX T K (He.ga K) R__law_load)) (F__law_members : FO P w K mg base 2 (He.fAd K ("_law_members", none)) ["value", "many"] (SpX T K (He.ga K) R__law_members)) (hR : ∀ ds r, R__law_is_accepted ds r → ds.length = 3) (hw : Walks T K N__law_is_accepted (t__law_is_accepted T K R__law_load R__law_members) R__law_is_accepted) : FO P w K mg base 3 (He.fAd K ("_law_is_accepted", none)) ["stays", "count", "members"] (SpX T K (He.ga K) R__law_is_accepted) :=
  FO.ofX c sc__law_is_accepted (fun _ _ _ _ _ _ us hl => match us, hl with | [_, _, _], _ => rfl) hR (b__law_is_accepted V F__law_load F__law_members) hw
abbrev N__law_bits : List Str := ["cell", "many", "found", "numbers", "share", "k"]
def t__law_bits (T : Tbs) (K : PySem.W.Frag) (R__law_row : List D → Res → Prop) (W : WX) : TS := tSeq (tAsg (tLst (tNil)) (gName 2)) (tSeq (tAsg (tCallS (SpX T K (He.ga K) R__law_row) (WE W) (tCons (tVar 0) (tCons (tC (.int 60)) (tCons (tC (.int 60)) (tNil))))) (gName 3)) (tSeq (tAsg (tOp (XL.rMod) (tCB (XL.rInt) (tCons (tOp (rIx K) (tVar 3) (tC (.int 59))) (tNil))) (tC (.int 5))) (gName 4)) (tSeq (tFor (iRng1 (tCons (tVar 1) (tNil))) (gName 5) (tIfS (tTest (tOp (XL.rLe) (tOp (XL.rMod) (tCB (XL.rInt) (tCons (tOp (rIx K) (tVar 3) (tVar 5)) (tNil))) (tC (.int 6))) (tVar 4))) (tDrop (tBM K "list" rAppend (tVar 2) (tCons (tVar 5) (tNil)))) (tNext))) (tRet (tVar 2)))))
theorem sc__law_bits : FnScope N__law_bits ["cell", "many"] (defScope s__law_bits) := ⟨rfl, rfl, rfl, by decide +kernel, rfl, by decide +kernel, by decide +kernel⟩
theorem b__law_bits {R__law_row : List D → Res → Prop} (V : Nv K mg) (F__law_row : FO P w K mg base 1 (He.fAd K ("_law_row", none)) ["cell", "many", "limit"] (SpX T K (He.ga K) R__law_row)) : BodyOk P w K mg base 1 N__law_bits "_law_bits" (defScope s__law_bits) ("_law_bits", none) (defBody s__law_bits) (t__law_bits T K R__law_row) := fun A outer s H E hr =>
  pss_cons (ps_set (i := 2) sc__law_bits.nd rfl (by first | exact Or.inl rfl | exact Or.inr rfl) (pe_lst (pa_nil))) (pss_cons (ps_set (i := 3) sc__law_bits.nd rfl (by first | exact Or.inl rfl | exact Or.inr rfl) (pe_fo F__law_row hr (by decide) rfl V.g__law_row (takes_of rfl rfl rfl rfl) (pa_cons (pv 0) (pa_cons (pe_int) (pa_cons (pe_int) (pa_nil)))))) (pss_cons (ps_set (i := 4) sc__law_bits.nd rfl (by first | exact Or.inl rfl | exact Or.inr rfl) (pe_op o_mod (pe_callTy c_int rfl V.b_int boot_int (pa_cons (pe_ix ix_seq (pv 3) (pe_int) (fun _ _ => rfl)) (pa_nil))) (pe_int))) (pss_cons (ps_for (passes_of rfl) rfl (pi_range1 rfl V.b_range (pa_cons (pv 1) (pa_nil))) (pg_name (i := 5) sc__law_bits.nd rfl (by first | exact Or.inl rfl | exact Or.inr rfl)) (pss_one (ps_if (pt_cmpR o_le (pe_op o_mod (pe_callTy c_int rfl V.b_int boot_int (pa_cons (pe_ix ix_seq (pv 3) (pv 5) (fun _ _ => rfl)) (pa_nil))) (pe_int)) (pv 4) (nomark _)) (pss_one (ps_expr (pe_bm PySem.F.plainAttrs_list PySem.F.slot_list_append PySem.F.type_list_append mt_append (pv 2) (pa_cons (pv 5) (pa_nil))))) (pss_nil)))) (pss_one (ps_ret (pv 2))))))
theorem fo__law_bits {R__law_row : List D → Res → Prop} {R__law_bits : List D → Res → Prop} (c : ∃ fd, FunD K "_law_bits" "_law_bits" (defArgs s__law_bits) (defBody s__law_bits) (defScope s__law_bits) [] [] (He.fAd K ("_law_bits", none)) fd) (V : Nv K mg) (F__law_row : FO P w K mg base 1 (He.fAd K ("_law_row", none)) ["cell", "many", "limit"] (SpX T K (He.ga K) R__law_row)) (hR : ∀ ds r, R__law_bits ds r → ds.length = 2) (hw : Walks T K N__law_bits (t__law_bits T K R__law_row) R__law_bits) : FO P w K mg base 2 (He.fAd K ("_law_bits", none)) ["cell", "many"] (SpX T K (He.ga K) R__law_bits) :=
  FO.ofX c sc__law_bits (fun _ _ _ _ _ _ us hl => match us, hl with | [_, _], _ => rfl) hR (b__law_bits V F__law_row) hw
abbrev N__law_papers : List Str := ["script", "at", "stays", "base", "many", "numbers", "drawn", "papers", "k", "dropped", "spot", "more"]
def t__law_papers (T : Tbs) (K : PySem.W.Frag) (R__law_bits R__law_cell R__law_row : List D → Res → Prop) (W : WX) : TS := tSeq (tAsg (tCB (XL.rLen K) (tCons (tVar 2) (tNil))) (gName 4)) (tSeq (tAsg (tCallS (SpX T K (He.ga K) R__law_row) (WE W) (tCons (tCallS (SpX T K (He.ga K) R__law_cell) (WE W) (tCons (tVar 0) (tCons (tVar 1) (tNil)))) (tCons (tC (.int 4)) (tCons (tC (.int 60)) (tNil))))) (gName 5)) (tSeq (tAsg (tCallS (SpX T K (He.ga K) R__law_bits) (WE W) (tCons (tCallS (SpX T K (He.ga K) R__law_cell) (WE W) (tCons (tVar 0) (tCons (tOp (XL.rAdd K) (tVar 1) (tC (.int 1))) (tNil)))) (tCons (tVar 4) (tNil)))) (gName 6)) (tSeq (tAsg (tLst (tCons (tVar 3) (tCons (tVar 6) (tCons (tLstRg (tRg1 (tVar 4))) (tCons (tLst (tNil)) (tCons (tOp (XL.rAdd K) (tVar 3) (tLst (tCons (tVar 4) (tNil)))) (tCons (tOp (XL.rAdd K) (tLst (tCons (tUn XL.rNeg (tC (.int 1))) (tNil))) (tVar 3)) (tCons (tRevL K (tVar 3)) (tCons (tOp (XL.rAdd K) (tVar 3) (tSl (XL.rSL K) (tVar 3) (tPart (tUn XL.rNeg (tC (.int 1)))) (tNoPart))) (tNil)))))))))) (gName 7)) (tSeq (tAsg (tOp (XL.rAdd K) (tVar 7) (tLst (tCons (tCB (XL.rTpl K) (tCons (tVar 3) (tNil))) (tCons (tC .non) (tCons (tC (.str "0")) (tCons (tLc (iList K (tVar 3)) (gName 8) (tYes) (tOp (rEqD K) (tVar 8) (tC (.int 1))) [8]) (tNil))))))) (gName 7)) (tSeq (tAsg (tLc (iRng1 (tCons (tVar 4) (tNil))) (gName 8) (tTest (tOp (XL.rInA K true) (tVar 8) (tVar 3))) (tVar 8) [8]) (gName 9)) (tSeq (tIfS (tTest (tOp (XL.rGt) (tCB (XL.rLen K) (tCons (tVar 3) (tNil))) (tC (.int 0)))) (tSeq (tAsg (tOp (XL.rMod) (tCB (XL.rInt) (tCons (tOp (rIx K) (tVar 5) (tC (.int 0))) (tNil))) (tCB (XL.rLen K) (tCons (tVar 3) (tNil)))) (gName 10)) (tSeq (tDrop (tBM K "list" rAppend (tVar 7) (tCons (tOp (XL.rAdd K) (tSl (XL.rSL K) (tVar 3) (tNoPart) (tPart (tVar 10))) (tSl (XL.rSL K) (tVar 3) (tPart (tOp (XL.rAdd K) (tVar 10) (tC (.int 1)))) (tNoPart))) (tNil)))) (tSeq (tDrop (tBM K "list" rAppend (tVar 7) (tCons (tOp (XL.rAdd K) (tOp (XL.rAdd K) (tSl (XL.rSL K) (tVar 3) (tNoPart) (tPart (tVar 10))) (tLst (tCons (tOp (rEqD K) (tOp (rIx K) (tVar 3) (tVar 10)) (tC (.int 1))) (tNil)))) (tSl (XL.rSL K) (tVar 3) (tPart (tOp (XL.rAdd K) (tVar 10) (tC (.int 1)))) (tNoPart))) (tNil)))) (tIfS (tTest (tOp (XL.rGt) (tCB (XL.rLen K) (tCons (tVar 9) (tNil))) (tC (.int 0)))) (tSeq (tAsg (tOp (rIx K) (tVar 9) (tOp (XL.rMod) (tCB (XL.rInt) (tCons (tOp (rIx K) (tVar 5) (tC (.int 1))) (tNil))) (tCB (XL.rLen K) (tCons (tVar 9) (tNil))))) (gName 11)) (tSeq (tDrop (tBM K "list" rAppend (tVar 7) (tCons (tCB (XL.rSrt K) (tCons (tOp (XL.rAdd K) (tVar 3) (tLst (tCons (tVar 11) (tNil)))) (tNil))) (tNil)))) (tDrop (tBM K "list" rAppend (tVar 7) (tCons (tCB (XL.rSrt K) (tCons (tOp (XL.rAdd K) (tOp (XL.rAdd K) (tSl (XL.rSL K) (tVar 3) (tNoPart) (tPart (tVar 10))) (tSl (XL.rSL K) (tVar 3) (tPart (tOp (XL.rAdd K) (tVar 10) (tC (.int 1)))) (tNoPart))) (tLst (tCons (tVar 11) (tNil)))) (tNil))) (tNil)))))) (tNext))))) (tNext)) (tRet (tVar 7))))))))
theorem sc__law_papers : FnScope N__law_papers ["script", "at", "stays", "base"] (defScope s__law_papers) := ⟨rfl, rfl, rfl, by decide +kernel, rfl, by decide +kernel, by decide +kernel⟩
theorem b__law_papers {R__law_bits R__law_cell R__law_row : List D → Res → Prop} (V : Nv K mg) (F__law_bits : FO P w K mg base 2 (He.fAd K ("_law_bits", none)) ["cell", "many"] (SpX T K (He.ga K) R__law_bits)) (F__law_cell : FO P w K mg base 1 (He.fAd K ("_law_cell", none)) ["script", "k"] (SpX T K (He.ga K) R__law_cell)) (F__law_row : FO P w K mg base 1 (He.fAd K ("_law_row", none)) ["cell", "many", "limit"] (SpX T K (He.ga K) R__law_row)) : BodyOk P w K mg base 2 N__law_papers "_law_papers" (defScope s__law_papers) ("_law_papers", none) (defBody s__law_papers) (t__law_papers T K R__law_bits R__law_cell R__law_row) := fun A outer s H E hr =>
  pss_cons (ps_set (i := 4) sc__law_papers.nd rfl (by first | exact Or.inl rfl | exact Or.inr rfl) (pe_callB c_len rfl V.b_len boot_len (pa_cons (pv 2) (pa_nil)))) (pss_cons (ps_set (i := 5) sc__law_papers.nd rfl (by first | exact Or.inl rfl | exact Or.inr rfl) (pe_fo F__law_row hr (by decide) rfl V.g__law_row (takes_of rfl rfl rfl rfl) (pa_cons (pe_fo F__law_cell hr (by decide) rfl V.g__law_cell (takes_of rfl rfl rfl rfl) (pa_cons (pv 0) (pa_cons (pv 1) (pa_nil)))) (pa_cons (pe_int) (pa_cons (pe_int) (pa_nil)))))) (pss_cons (ps_set (i := 6) sc__law_papers.nd rfl (by first | exact Or.inl rfl | exact Or.inr rfl) (pe_fo F__law_bits hr (by decide) rfl V.g__law_bits (takes_of rfl rfl rfl rfl) (pa_cons (pe_fo F__law_cell hr (by decide) rfl V.g__law_cell (takes_of rfl rfl rfl rfl) (pa_cons (pv 0) (pa_cons (pe_op o_add (pv 1) (pe_int)) (pa_nil)))) (pa_cons (pv 4) (pa_nil))))) (pss_cons (ps_set (i := 7) sc__law_papers.nd rfl (by first | exact Or.inl rfl | exact Or.inr rfl) (pe_lst (pa_cons (pv 3) (pa_cons (pv 6) (pa_cons (pe_listRg rfl rfl V.b_list (prg_1 rfl V.b_range (pv 4))) (pa_cons (pe_lst (pa_nil)) (pa_cons (pe_op o_add (pv 3) (pe_lst (pa_cons (pv 4) (pa_nil)))) (pa_cons (pe_op o_add (pe_lst (pa_cons (pe_un u_neg (pe_int)) (pa_nil))) (pv 3)) (pa_cons (pe_revL (pv 3)) (pa_cons (pe_op o_add (pv 3) (pe_slice sl_any (pv 3) (po_some (pe_un u_neg (pe_int))) (po_none))) (pa_nil))))))))))) (pss_cons (ps_set (i := 7) sc__law_papers.nd rfl (by first | exact Or.inl rfl | exact Or.inr rfl) (pe_op o_add (pv 7) (pe_lst (pa_cons (pe_callTy c_tuple rfl V.b_tuple boot_tuple (pa_cons (pv 3) (pa_nil))) (pa_cons (pe_non) (pa_cons (pe_str) (pa_cons (pe_lc (own := [("k", 8)]) (g := gName 8) rfl sc__law_papers.nd (pi_list (pv 3)) (blkOk_by (own := [("k", 8)]) (N := N__law_papers) (sc := defScope s__law_papers) (by decide +kernel)) (fun _ _ _ _ _ => pg_name (i := 8) sc__law_papers.nd rfl (Or.inl rfl)) (fun _ _ _ _ _ => pts_nil) (fun _ _ _ _ _ => pe_cmpR (op_eqD hr.units) (pv 8) (pe_int) (nomark _))) (pa_nil)))))))) (pss_cons (ps_setLc (i := 9) (own := [("k", 8)]) (g := gName 8) rfl sc__law_papers.nd rfl rfl (sw_true rfl rfl rfl (by decide +kernel)) (pi_range1 rfl V.b_range (pa_cons (pv 4) (pa_nil))) (blkOk_by (own := [("k", 8)]) (N := N__law_papers) (sc := defScope s__law_papers) (by decide +kernel)) (fun _ _ _ _ _ => pg_name (i := 8) sc__law_papers.nd rfl (Or.inl rfl)) (fun _ _ _ _ _ => pts_one (pt_cmpR o_notin (pv 8) (pv 3) (by with_unfolding_all rfl))) (fun _ _ _ _ _ => pv 8)) (pss_cons (ps_if (pt_cmpR o_gt (pe_callB c_len rfl V.b_len boot_len (pa_cons (pv 3) (pa_nil))) (pe_int) (nomark _)) (pss_cons (ps_set (i := 10) sc__law_papers.nd rfl (by first | exact Or.inl rfl | exact Or.inr rfl) (pe_op o_mod (pe_callTy c_int rfl V.b_int boot_int (pa_cons (pe_ix ix_seq (pv 5) (pe_int) (fun _ _ => rfl)) (pa_nil))) (pe_callB c_len rfl V.b_len boot_len (pa_cons (pv 3) (pa_nil))))) (pss_cons (ps_expr (pe_bm PySem.F.plainAttrs_list PySem.F.slot_list_append PySem.F.type_list_append mt_append (pv 7) (pa_cons (pe_op o_add (pe_slice sl_any (pv 3) (po_none) (po_some (pv 10))) (pe_slice sl_any (pv 3) (po_some (pe_op o_add (pv 10) (pe_int))) (po_none))) (pa_nil)))) (pss_cons (ps_expr (pe_bm PySem.F.plainAttrs_list PySem.F.slot_list_append PySem.F.type_list_append mt_append (pv 7) (pa_cons (pe_op o_add (pe_op o_add (pe_slice sl_any (pv 3) (po_none) (po_some (pv 10))) (pe_lst (pa_cons (pe_cmpR (op_eqD hr.units) (pe_ix ix_seq (pv 3) (pv 10) (fun _ _ => rfl)) (pe_int) (nomark _)) (pa_nil)))) (pe_slice sl_any (pv 3) (po_some (pe_op o_add (pv 10) (pe_int))) (po_none))) (pa_nil)))) (pss_one (ps_if (pt_cmpR o_gt (pe_callB c_len rfl V.b_len boot_len (pa_cons (pv 9) (pa_nil))) (pe_int) (nomark _)) (pss_cons (ps_set (i := 11) sc__law_papers.nd rfl (by first | exact Or.inl rfl | exact Or.inr rfl) (pe_ix ix_seq (pv 9) (pe_op o_mod (pe_callTy c_int rfl V.b_int boot_int (pa_cons (pe_ix ix_seq (pv 5) (pe_int) (fun _ _ => rfl)) (pa_nil))) (pe_callB c_len rfl V.b_len boot_len (pa_cons (pv 9) (pa_nil)))) (fun _ _ => rfl))) (pss_cons (ps_expr (pe_bm PySem.F.plainAttrs_list PySem.F.slot_list_append PySem.F.type_list_append mt_append (pv 7) (pa_cons (pe_callB c_sorted rfl V.b_sorted boot_sorted (pa_cons (pe_op o_add (pv 3) (pe_lst (pa_cons (pv 11) (pa_nil)))) (pa_nil))) (pa_nil)))) (pss_one (ps_expr (pe_bm PySem.F.plainAttrs_list PySem.F.slot_list_append PySem.F.type_list_append mt_append (pv 7) (pa_cons (pe_callB c_sorted rfl V.b_sorted boot_sorted (pa_cons (pe_op o_add (pe_op o_add (pe_slice sl_any (pv 3) (po_none) (po_some (pv 10))) (pe_slice sl_any (pv 3) (po_some (pe_op o_add (pv 10) (pe_int))) (po_none))) (pe_lst (pa_cons (pv 11) (pa_nil)))) (pa_nil))) (pa_nil))))))) (pss_nil)))))) (pss_nil)) (pss_one (ps_ret (pv 7)))))))))
theorem fo__law_papers {R__law_bits R__law_cell R__law_row : List D → Res → Prop} {R__law_papers : List D → Res → Prop} (c : ∃ fd, FunD K "_law_papers" "_law_papers" (defArgs s__law_papers) (defBody s__law_papers) (defScope s__law_papers) [] [] (He.fAd K ("_law_papers", none)) fd) (V : Nv K mg) (F__law_bits : FO P w K mg base 2 (He.fAd K ("_law_bits", none)) ["cell", "many"] (SpX T K (He.ga K) R__law_bits)) (F__law_cell : FO P w K mg base 1 (He.fAd K ("_law_cell", none)) ["script", "k"] (SpX T K (He.ga K) R__law_cell)) (F__law_row : FO P w K mg base 1 (He.fAd K ("_law_row", none)) ["cell", "many", "limit"] (SpX T K (He.ga K) R__law_row)) (hR : ∀ ds r, R__law_papers ds r → ds.length = 4) (hw : Walks T K N__law_papers (t__law_papers T K R__law_bits R__law_cell R__law_row) R__law_papers) : FO P w K mg base 3 (He.fAd K ("_law_papers", none)) ["script", "at", "stays", "base"] (SpX T K (He.ga K) R__law_papers) :=
  FO.ofX c sc__law_papers (fun _ _ _ _ _ _ us hl => match us, hl with | [_, _, _, _], _ => rfl) hR (b__law_papers V F__law_bits F__law_cell F__law_row) hw
abbrev N__law_subsets : List Str := ["many", "found", "k", "members"]
def t__law_subsets (T : Tbs) (K : PySem.W.Frag) (W : WX) : TS := tSeq (tAsg (tLst (tCons (tLst (tNil)) (tNil))) (gName 1)) (tSeq (tFor (iRng1 (tCons (tVar 0) (tNil))) (gName 2) (tAsg (tOp (XL.rAdd K) (tVar 1) (tLc (iList K (tVar 1)) (gName 3) (tYes) (tOp (XL.rAdd K) (tVar 3) (tLst (tCons (tVar 2) (tNil)))) [3])) (gName 1))) (tRet (tVar 1)))
theorem sc__law_subsets : FnScope N__law_subsets ["many"] (defScope s__law_subsets) := ⟨rfl, rfl, rfl, by decide +kernel, rfl, by decide +kernel, by decide +kernel⟩
theorem b__law_subsets (V : Nv K mg) : BodyOk P w K mg base 0 N__law_subsets "_law_subsets" (defScope s__law_subsets) ("_law_subsets", none) (defBody s__law_subsets) (t__law_subsets T K) := fun A outer s H E hr =>
  pss_cons (ps_set (i := 1) sc__law_subsets.nd rfl (by first | exact Or.inl rfl | exact Or.inr rfl) (pe_lst (pa_cons (pe_lst (pa_nil)) (pa_nil)))) (pss_cons (ps_for (passes_of rfl) rfl (pi_range1 rfl V.b_range (pa_cons (pv 0) (pa_nil))) (pg_name (i := 2) sc__law_subsets.nd rfl (by first | exact Or.inl rfl | exact Or.inr rfl)) (pss_one (ps_set (i := 1) sc__law_subsets.nd rfl (by first | exact Or.inl rfl | exact Or.inr rfl) (pe_op o_add (pv 1) (pe_lc (own := [("members", 3)]) (g := gName 3) rfl sc__law_subsets.nd (pi_list (pv 1)) (blkOk_by (own := [("members", 3)]) (N := N__law_subsets) (sc := defScope s__law_subsets) (by decide +kernel)) (fun _ _ _ _ _ => pg_name (i := 3) sc__law_subsets.nd rfl (Or.inl rfl)) (fun _ _ _ _ _ => pts_nil) (fun _ _ _ _ _ => pe_op o_add (pv 3) (pe_lst (pa_cons (pv 2) (pa_nil))))))))) (pss_one (ps_ret (pv 1))))
theorem fo__law_subsets {R__law_subsets : List D → Res → Prop} (c : ∃ fd, FunD K "_law_subsets" "_law_subsets" (defArgs s__law_subsets) (defBody s__law_subsets) (defScope s__law_subsets) [] [] (He.fAd K ("_law_subsets", none)) fd) (V : Nv K mg) (hR : ∀ ds r, R__law_subsets ds r → ds.length = 1) (hw : Walks T K N__law_subsets (t__law_subsets T K) R__law_subsets) : FO P w K mg base 1 (He.fAd K ("_law_subsets", none)) ["many"] (SpX T K (He.ga K) R__law_subsets) :=
  FO.ofX c sc__law_subsets (fun _ _ _ _ _ _ us hl => match us, hl with | [_], _ => rfl) hR (b__law_subsets V) hw
abbrev N__law_bad_stays : List Str := ["stays", "way", "number", "line", "spot", "bad"]
def t__law_bad_stays (T : Tbs) (K : PySem.W.Frag) (W : WX) : TS := tSeq (tIfS (tTest (tOp (rEqD K) (tVar 1) (tC (.int 0)))) (tRet (tTup (tCons (tCB (XL.rTpl K) (tCons (tVar 0) (tNil))) (tCons (tTup (tCons (tC (.str "BadValue")) (tCons (tC (.str "stays")) (tNil)))) (tNil))))) (tNext)) (tSeq (tIfS (tTest (tOp (rEqD K) (tVar 1) (tC (.int 1)))) (tRet (tTup (tCons (tOp (XL.rMul) (tLst (tCons (tC .non) (tNil))) (tC (.int 61))) (tCons (tTup (tCons (tC (.str "TooMany")) (tCons (tC (.int 60)) (tNil)))) (tNil))))) (tNext)) (tSeq (tAsg (tSl (XL.rSL K) (tVar 0) (tNoPart) (tPart (tC (.int 59)))) (gName 3)) (tSeq (tAsg (tOp (XL.rMod) (tCB (XL.rInt) (tCons (tVar 2) (tNil))) (tOp (XL.rAdd K) (tCB (XL.rLen K) (tCons (tVar 3) (tNil))) (tC (.int 1)))) (gName 4)) (tSeq (tAsg (tOp (rIx K) (tLst (tCons (tTup (tCons (tC (.int 3)) (tCons (tC (.int 3)) (tNil)))) (tCons (tTup (tCons (tC (.int 4)) (tCons (tC (.int 2)) (tNil)))) (tCons (tLst (tCons (tC (.int 0)) (tCons (tC (.int 1)) (tNil)))) (tCons (tTup (tCons (tC (.int 0)) (tCons (tC (.bl true)) (tNil)))) (tCons (tTup (tCons (tUn XL.rNeg (tC (.int 1))) (tCons (tC (.int 2)) (tNil)))) (tCons (tTup (tCons (tC (.int 0)) (tCons (tC (.int 1000001)) (tNil)))) (tCons (tC .non) (tCons (tTup (tCons (tC (.int 0)) (tCons (tC (.int 1)) (tCons (tC (.int 2)) (tNil))))) (tNil)))))))))) (tOp (XL.rMod) (tCB (XL.rInt) (tCons (tVar 1) (tNil))) (tC (.int 8)))) (gName 5)) (tRet (tTup (tCons (tOp (XL.rAdd K) (tOp (XL.rAdd K) (tSl (XL.rSL K) (tVar 3) (tNoPart) (tPart (tVar 4))) (tLst (tCons (tVar 5) (tNil)))) (tSl (XL.rSL K) (tVar 3) (tPart (tVar 4)) (tNoPart))) (tCons (tTup (tCons (tC (.str "BadValue")) (tCons (tC (.str "stays")) (tNil)))) (tNil)))))))))
theorem sc__law_bad_stays : FnScope N__law_bad_stays ["stays", "way", "number"] (defScope s__law_bad_stays) := ⟨rfl, rfl, rfl, by decide +kernel, rfl, by decide +kernel, by decide +kernel⟩
theorem b__law_bad_stays (V : Nv K mg) : BodyOk P w K mg base 0 N__law_bad_stays "_law_bad_stays" (defScope s__law_bad_stays) ("_law_bad_stays", none) (defBody s__law_bad_stays) (t__law_bad_stays T K) := fun A outer s H E hr =>
  pss_cons (ps_if (pt_cmpR (op_eqD hr.units) (pv 1) (pe_int) (nomark _)) (pss_one (ps_ret (pe_tup (pa_cons (pe_callTy c_tuple rfl V.b_tuple boot_tuple (pa_cons (pv 0) (pa_nil))) (pa_cons (pe_tup (pa_cons (pe_str) (pa_cons (pe_str) (pa_nil)))) (pa_nil)))))) (pss_nil)) (pss_cons (ps_if (pt_cmpR (op_eqD hr.units) (pv 1) (pe_int) (nomark _)) (pss_one (ps_ret (pe_tup (pa_cons (pe_op o_mul (pe_lst (pa_cons (pe_non) (pa_nil))) (pe_int)) (pa_cons (pe_tup (pa_cons (pe_str) (pa_cons (pe_int) (pa_nil)))) (pa_nil)))))) (pss_nil)) (pss_cons (ps_set (i := 3) sc__law_bad_stays.nd rfl (by first | exact Or.inl rfl | exact Or.inr rfl) (pe_slice sl_any (pv 0) (po_none) (po_some (pe_int)))) (pss_cons (ps_set (i := 4) sc__law_bad_stays.nd rfl (by first | exact Or.inl rfl | exact Or.inr rfl) (pe_op o_mod (pe_callTy c_int rfl V.b_int boot_int (pa_cons (pv 2) (pa_nil))) (pe_op o_add (pe_callB c_len rfl V.b_len boot_len (pa_cons (pv 3) (pa_nil))) (pe_int)))) (pss_cons (ps_set (i := 5) sc__law_bad_stays.nd rfl (by first | exact Or.inl rfl | exact Or.inr rfl) (pe_ix ix_seq (pe_lst (pa_cons (pe_tup (pa_cons (pe_int) (pa_cons (pe_int) (pa_nil)))) (pa_cons (pe_tup (pa_cons (pe_int) (pa_cons (pe_int) (pa_nil)))) (pa_cons (pe_lst (pa_cons (pe_int) (pa_cons (pe_int) (pa_nil)))) (pa_cons (pe_tup (pa_cons (pe_int) (pa_cons (pe_bl) (pa_nil)))) (pa_cons (pe_tup (pa_cons (pe_un u_neg (pe_int)) (pa_cons (pe_int) (pa_nil)))) (pa_cons (pe_tup (pa_cons (pe_int) (pa_cons (pe_int) (pa_nil)))) (pa_cons (pe_non) (pa_cons (pe_tup (pa_cons (pe_int) (pa_cons (pe_int) (pa_cons (pe_int) (pa_nil))))) (pa_nil)))))))))) (pe_op o_mod (pe_callTy c_int rfl V.b_int boot_int (pa_cons (pv 1) (pa_nil))) (pe_int)) (fun _ _ => rfl))) (pss_one (ps_ret (pe_tup (pa_cons (pe_op o_add (pe_op o_add (pe_slice sl_any (pv 3) (po_none) (po_some (pv 4))) (pe_lst (pa_cons (pv 5) (pa_nil)))) (pe_slice sl_any (pv 3) (po_some (pv 4)) (po_none))) (pa_cons (pe_tup (pa_cons (pe_str) (pa_cons (pe_str) (pa_nil)))) (pa_nil))))))))))
theorem fo__law_bad_stays {R__law_bad_stays : List D → Res → Prop} (c : ∃ fd, FunD K "_law_bad_stays" "_law_bad_stays" (defArgs s__law_bad_stays) (defBody s__law_bad_stays) (defScope s__law_bad_stays) [] [] (He.fAd K ("_law_bad_stays", none)) fd) (V : Nv K mg) (hR : ∀ ds r, R__law_bad_stays ds r → ds.length = 3) (hw : Walks T K N__law_bad_stays (t__law_bad_stays T K) R__law_bad_stays) : FO P w K mg base 1 (He.fAd K ("_law_bad_stays", none)) ["stays", "way", "number"] (SpX T K (He.ga K) R__law_bad_stays) :=
  FO.ofX c sc__law_bad_stays (fun _ _ _ _ _ _ us hl => match us, hl with | [_, _, _], _ => rfl) hR (b__law_bad_stays V) hw
abbrev N__law_said : List Str := ["way", "stays", "count", "e"]
def t__law_said (T : Tbs) (K : PySem.W.Frag) (R_is_accepted R_most_bookings : List D → Res → Prop) (W : WX) : TS := tTryAs K W (([("BadValue", "what", "BadValue"), ("TooMany", "limit", "TooMany")] : List (Str × Str × Str)).map fun q => clTag K 3 q.1 q.2.1 q.2.2) (fun W' => tSeq (tIfS (tTest (tOp (rEqD K) (tVar 0) (tC (.int 0)))) (tRet (tTup (tCons (tC (.str "answer")) (tCons (tCallS (SpX T K (He.ga K) R_most_bookings) (WE W') (tCons (tVar 1) (tCons (tVar 2) (tNil)))) (tNil))))) (tNext)) (tRet (tTup (tCons (tC (.str "answer")) (tCons (tCallS (SpX T K (He.ga K) R_is_accepted) (WE W') (tCons (tVar 1) (tCons (tVar 2) (tCons (tC .non) (tNil))))) (tNil))))))
theorem sc__law_said : FnScope N__law_said ["way", "stays", "count"] (defScope s__law_said) := ⟨rfl, rfl, rfl, by decide +kernel, rfl, by decide +kernel, by decide +kernel⟩
theorem b__law_said {R_is_accepted R_most_bookings : List D → Res → Prop} (V : Nv K mg) (F_is_accepted : FO P w K mg base 8 (He.fAd K ("is_accepted", none)) ["stays", "count", "members"] (SpX T K (He.ga K) R_is_accepted)) (F_most_bookings : FO P w K mg base 8 (He.fAd K ("most_bookings", none)) ["stays", "count"] (SpX T K (He.ga K) R_most_bookings)) : BodyOk P w K mg base 8 N__law_said "_law_said" (defScope s__law_said) ("_law_said", none) (defBody s__law_said) (t__law_said T K R_is_accepted R_most_bookings) := fun A outer s H E hr =>
  pss_one (ps_tryC rfl rfl sc__law_said.nd (takes_of rfl rfl rfl rfl) (fun W' pn xe tk' po' => pss_cons (ps_if (pt_cmpR (op_eqD hr.units) (pv 0) (pe_int) (nomark _)) (pss_one (ps_ret (pe_tup (pa_cons (pe_str) (pa_cons (pe_fo F_most_bookings hr (by decide) rfl V.g_most_bookings tk' (pa_cons (pv 1) (pa_cons (pv 2) (pa_nil)))) (pa_nil)))))) (pss_nil)) (pss_one (ps_ret (pe_tup (pa_cons (pe_str) (pa_cons (pe_fo F_is_accepted hr (by decide) rfl V.g_is_accepted tk' (pa_cons (pv 1) (pa_cons (pv 2) (pa_cons (pe_non) (pa_nil))))) (pa_nil))))))) (.cons rfl rfl ⟨rfl, by decide, .inl V.g_BadValue⟩ (fun a oe cls d pn hz hf => pss_one (ps_ret (pe_tup (pa_cons (pe_str) (pa_cons (pe_xf (exF_of V.ex (p := ("BadValue", ["what"])) (by simp [exs])).x ((exF_of V.ex (p := ("BadValue", ["what"])) (by simp [exs])).no _ (by simp)) hz hf (pv 3)) (pa_nil)))))) (.cons rfl rfl ⟨rfl, by decide, .inl V.g_TooMany⟩ (fun a oe cls d pn hz hf => pss_one (ps_ret (pe_tup (pa_cons (pe_str) (pa_cons (pe_xf (exF_of V.ex (p := ("TooMany", ["limit"])) (by simp [exs])).x ((exF_of V.ex (p := ("TooMany", ["limit"])) (by simp [exs])).no _ (by simp)) hz hf (pv 3)) (pa_nil)))))) (.nil))))
theorem fo__law_said {R_is_accepted R_most_bookings : List D → Res → Prop} {R__law_said : List D → Res → Prop} (c : ∃ fd, FunD K "_law_said" "_law_said" (defArgs s__law_said) (defBody s__law_said) (defScope s__law_said) [] [] (He.fAd K ("_law_said", none)) fd) (V : Nv K mg) (F_is_accepted : FO P w K mg base 8 (He.fAd K ("is_accepted", none)) ["stays", "count", "members"] (SpX T K (He.ga K) R_is_accepted)) (F_most_bookings : FO P w K mg base 8 (He.fAd K ("most_bookings", none)) ["stays", "count"] (SpX T K (He.ga K) R_most_bookings)) (hR : ∀ ds r, R__law_said ds r → ds.length = 3) (hw : Walks T K N__law_said (t__law_said T K R_is_accepted R_most_bookings) R__law_said) : FO P w K mg base 9 (He.fAd K ("_law_said", none)) ["way", "stays", "count"] (SpX T K (He.ga K) R__law_said) :=
  FO.ofX c sc__law_said (fun _ _ _ _ _ _ us hl => match us, hl with | [_, _, _], _ => rfl) hR (b__law_said V F_is_accepted F_most_bookings) hw
abbrev N__law_spoilt : List Str := ["script", "at", "stays", "count", "numbers", "given", "due", "pair", "way"]
def t__law_spoilt (T : Tbs) (K : PySem.W.Frag) (R__law_said R__law_bad_stays R__law_row R__law_cell : List D → Res → Prop) (W : WX) : TS := tSeq (tAsg (tCallS (SpX T K (He.ga K) R__law_row) (WE W) (tCons (tCallS (SpX T K (He.ga K) R__law_cell) (WE W) (tCons (tVar 0) (tCons (tVar 1) (tNil)))) (tCons (tC (.int 5)) (tCons (tC (.int 60)) (tNil))))) (gName 4)) (tSeq (tAsg (tLst (tCons (tVar 2) (tCons (tVar 3) (tNil)))) (gName 5)) (tSeq (tAsg (tC .non) (gName 6)) (tSeq (tIfS (tTest (tOp (rEqD K) (tOp (XL.rMod) (tCB (XL.rInt) (tCons (tOp (rIx K) (tVar 4) (tC (.int 0))) (tNil))) (tC (.int 2))) (tC (.int 0)))) (tSeq (tAsg (tOp (rIx K) (tLst (tCons (tUn XL.rNeg (tC (.int 1))) (tCons (tC (.int 61)) (tCons (tC (.bl true)) (tCons (tC .non) (tCons (tC (.str "3")) (tCons (tLst (tCons (tC (.int 3)) (tNil))) (tNil)))))))) (tOp (XL.rMod) (tCB (XL.rInt) (tCons (tOp (rIx K) (tVar 4) (tC (.int 1))) (tNil))) (tC (.int 6)))) (gSub (tVar 5) (tC (.int 1)) rSetL)) (tAsg (tTup (tCons (tC (.str "BadValue")) (tCons (tC (.str "count")) (tNil)))) (gName 6))) (tNext)) (tSeq (tIfS (tTest (tOp (rEqD K) (tOp (XL.rMod) (tCB (XL.rInt) (tCons (tOp (rIx K) (tVar 4) (tC (.int 2))) (tNil))) (tC (.int 2))) (tC (.int 0)))) (tSeq (tAsg (tCallS (SpX T K (He.ga K) R__law_bad_stays) (WE W) (tCons (tVar 2) (tCons (tOp (XL.rMod) (tCB (XL.rInt) (tCons (tOp (rIx K) (tVar 4) (tC (.int 3))) (tNil))) (tC (.int 11))) (tCons (tOp (rIx K) (tVar 4) (tC (.int 4))) (tNil))))) (gName 7)) (tSeq (tAsg (tOp (rIx K) (tVar 7) (tC (.int 0))) (gSub (tVar 5) (tC (.int 0)) rSetL)) (tAsg (tOp (rIx K) (tVar 7) (tC (.int 1))) (gName 6)))) (tNext)) (tSeq (tIfS (tTest (tOp (XL.rIsN) (tVar 6) (tC .non))) (tRet (tC (.bl true))) (tNext)) (tRet (tCB (rAll K) (tCons (tLc (iRng1 (tCons (tC (.int 2)) (tNil))) (gName 8) (tYes) (tOp (rEqD K) (tCall (SpX T K (He.ga K) R__law_said) [] E0 (tCons (tVar 8) (tCons (tOp (rIx K) (tVar 5) (tC (.int 0))) (tCons (tOp (rIx K) (tVar 5) (tC (.int 1))) (tNil))))) (tVar 6)) [8]) (tNil)))))))))
theorem sc__law_spoilt : FnScope N__law_spoilt ["script", "at", "stays", "count"] (defScope s__law_spoilt) := ⟨rfl, rfl, rfl, by decide +kernel, rfl, by decide +kernel, by decide +kernel⟩
theorem b__law_spoilt {R__law_said R__law_bad_stays R__law_row R__law_cell : List D → Res → Prop} (V : Nv K mg) (F__law_said : FO P w K mg base 9 (He.fAd K ("_law_said", none)) ["way", "stays", "count"] (SpX T K (He.ga K) R__law_said)) (F__law_bad_stays : FO P w K mg base 1 (He.fAd K ("_law_bad_stays", none)) ["stays", "way", "number"] (SpX T K (He.ga K) R__law_bad_stays)) (F__law_row : FO P w K mg base 1 (He.fAd K ("_law_row", none)) ["cell", "many", "limit"] (SpX T K (He.ga K) R__law_row)) (F__law_cell : FO P w K mg base 1 (He.fAd K ("_law_cell", none)) ["script", "k"] (SpX T K (He.ga K) R__law_cell)) : BodyOk P w K mg base 9 N__law_spoilt "_law_spoilt" (defScope s__law_spoilt) ("_law_spoilt", none) (defBody s__law_spoilt) (t__law_spoilt T K R__law_said R__law_bad_stays R__law_row R__law_cell) := fun A outer s H E hr =>
  pss_cons (ps_set (i := 4) sc__law_spoilt.nd rfl (by first | exact Or.inl rfl | exact Or.inr rfl) (pe_fo F__law_row hr (by decide) rfl V.g__law_row (takes_of rfl rfl rfl rfl) (pa_cons (pe_fo F__law_cell hr (by decide) rfl V.g__law_cell (takes_of rfl rfl rfl rfl) (pa_cons (pv 0) (pa_cons (pv 1) (pa_nil)))) (pa_cons (pe_int) (pa_cons (pe_int) (pa_nil)))))) (pss_cons (ps_set (i := 5) sc__law_spoilt.nd rfl (by first | exact Or.inl rfl | exact Or.inr rfl) (pe_lst (pa_cons (pv 2) (pa_cons (pv 3) (pa_nil))))) (pss_cons (ps_set (i := 6) sc__law_spoilt.nd rfl (by first | exact Or.inl rfl | exact Or.inr rfl) (pe_non)) (pss_cons (ps_if (pt_cmpR (op_eqD hr.units) (pe_op o_mod (pe_callTy c_int rfl V.b_int boot_int (pa_cons (pe_ix ix_seq (pv 4) (pe_int) (fun _ _ => rfl)) (pa_nil))) (pe_int)) (pe_int) (nomark _)) (pss_cons (ps_asg (pe_ix ix_seq (pe_lst (pa_cons (pe_un u_neg (pe_int)) (pa_cons (pe_int) (pa_cons (pe_bl) (pa_cons (pe_non) (pa_cons (pe_str) (pa_cons (pe_lst (pa_cons (pe_int) (pa_nil))) (pa_nil)))))))) (pe_op o_mod (pe_callTy c_int rfl V.b_int boot_int (pa_cons (pe_ix ix_seq (pv 4) (pe_int) (fun _ _ => rfl)) (pa_nil))) (pe_int)) (fun _ _ => rfl)) (pg_sub (pv 5) (pe_int) set_list)) (pss_one (ps_set (i := 6) sc__law_spoilt.nd rfl (by first | exact Or.inl rfl | exact Or.inr rfl) (pe_tup (pa_cons (pe_str) (pa_cons (pe_str) (pa_nil))))))) (pss_nil)) (pss_cons (ps_if (pt_cmpR (op_eqD hr.units) (pe_op o_mod (pe_callTy c_int rfl V.b_int boot_int (pa_cons (pe_ix ix_seq (pv 4) (pe_int) (fun _ _ => rfl)) (pa_nil))) (pe_int)) (pe_int) (nomark _)) (pss_cons (ps_set (i := 7) sc__law_spoilt.nd rfl (by first | exact Or.inl rfl | exact Or.inr rfl) (pe_fo F__law_bad_stays hr (by decide) rfl V.g__law_bad_stays (takes_of rfl rfl rfl rfl) (pa_cons (pv 2) (pa_cons (pe_op o_mod (pe_callTy c_int rfl V.b_int boot_int (pa_cons (pe_ix ix_seq (pv 4) (pe_int) (fun _ _ => rfl)) (pa_nil))) (pe_int)) (pa_cons (pe_ix ix_seq (pv 4) (pe_int) (fun _ _ => rfl)) (pa_nil)))))) (pss_cons (ps_asg (pe_ix ix_seq (pv 7) (pe_int) (fun _ _ => rfl)) (pg_sub (pv 5) (pe_int) set_list)) (pss_one (ps_set (i := 6) sc__law_spoilt.nd rfl (by first | exact Or.inl rfl | exact Or.inr rfl) (pe_ix ix_seq (pv 7) (pe_int) (fun _ _ => rfl)))))) (pss_nil)) (pss_cons (ps_if (pt_cmpR o_isN (pv 6) (pe_non) (nomark _)) (pss_one (ps_ret (pe_bl))) (pss_nil)) (pss_one (ps_ret (pe_callB (cr_all rfl) rfl V.b_all boot_all (pa_cons (pe_lc (own := [("way", 8)]) (g := gName 8) rfl sc__law_spoilt.nd (pi_range1 rfl V.b_range (pa_cons (pe_int) (pa_nil))) (blkOk_by (own := [("way", 8)]) (N := N__law_spoilt) (sc := defScope s__law_spoilt) (by decide +kernel)) (fun _ _ _ _ _ => pg_name (i := 8) sc__law_spoilt.nd rfl (Or.inl rfl)) (fun _ _ _ _ _ => pts_nil) (fun _ _ _ _ _ => pe_cmpR (op_eqD hr.units) (pe_fo0 F__law_said hr (by decide) rfl V.g__law_said (pa_cons (pv 8) (pa_cons (pe_ix ix_seq (pv 5) (pe_int) (fun _ _ => rfl)) (pa_cons (pe_ix ix_seq (pv 5) (pe_int) (fun _ _ => rfl)) (pa_nil))))) (pv 6) (nomark _))) (pa_nil))))))))))
theorem fo__law_spoilt {R__law_said R__law_bad_stays R__law_row R__law_cell : List D → Res → Prop} {R__law_spoilt : List D → Res → Prop} (c : ∃ fd, FunD K "_law_spoilt" "_law_spoilt" (defArgs s__law_spoilt) (defBody s__law_spoilt) (defScope s__law_spoilt) [] [] (He.fAd K ("_law_spoilt", none)) fd) (V : Nv K mg) (F__law_said : FO P w K mg base 9 (He.fAd K ("_law_said", none)) ["way", "stays", "count"] (SpX T K (He.ga K) R__law_said)) (F__law_bad_stays : FO P w K mg base 1 (He.fAd K ("_law_bad_stays", none)) ["stays", "way", "number"] (SpX T K (He.ga K) R__law_bad_stays)) (F__law_row : FO P w K mg base 1 (He.fAd K ("_law_row", none)) ["cell", "many", "limit"] (SpX T K (He.ga K) R__law_row)) (F__law_cell : FO P w K mg base 1 (He.fAd K ("_law_cell", none)) ["script", "k"] (SpX T K (He.ga K) R__law_cell)) (hR : ∀ ds r, R__law_spoilt ds r → ds.length = 4) (hw : Walks T K N__law_spoilt (t__law_spoilt T K R__law_said R__law_bad_stays R__law_row R__law_cell) R__law_spoilt) : FO P w K mg base 10 (He.fAd K ("_law_spoilt", none)) ["script", "at", "stays", "count"] (SpX T K (He.ga K) R__law_spoilt) :=
  FO.ofX c sc__law_spoilt (fun _ _ _ _ _ _ us hl => match us, hl with | [_, _, _, _], _ => rfl) hR (b__law_spoilt V F__law_said F__law_bad_stays F__law_row F__law_cell) hw
abbrev N_law : List Str := ["script", "shape", "many", "stays", "top", "stay", "count", "due", "handed", "told", "members", "paper", "given", "said"]
def t_law (T : Tbs) (K : PySem.W.Frag) (R__law_spoilt R__law_papers R__law_is_accepted R_is_accepted R__law_subsets R_most_bookings R__law_members R__law_booked R__law_load R__law_stays R__law_row R__law_cell : List D → Res → Prop) (W : WX) : TS := tSeq (tAsg (tCallS (SpX T K (He.ga K) R__law_row) (WE W) (tCons (tCallS (SpX T K (He.ga K) R__law_cell) (WE W) (tCons (tVar 0) (tCons (tC (.int 0)) (tNil)))) (tCons (tC (.int 4)) (tCons (tC (.int 61)) (tNil))))) (gName 1)) (tSeq (tAsg (tCB (XL.rInt) (tCons (tOp (rIx K) (tVar 1) (tC (.int 0))) (tNil))) (gName 2)) (tSeq (tIfS (tTest (tOp (rEqD K) (tOp (XL.rMod) (tCB (XL.rInt) (tCons (tOp (rIx K) (tVar 1) (tC (.int 1))) (tNil))) (tC (.int 3))) (tC (.int 0)))) (tAsg (tOp (XL.rMod) (tCB (XL.rInt) (tCons (tOp (rIx K) (tVar 1) (tC (.int 0))) (tNil))) (tC (.int 9))) (gName 2)) (tIfS (tTest (tOp (rEqD K) (tOp (XL.rMod) (tCB (XL.rInt) (tCons (tOp (rIx K) (tVar 1) (tC (.int 1))) (tNil))) (tC (.int 8))) (tC (.int 1)))) (tAsg (tC (.int 60)) (gName 2)) (tNext))) (tSeq (tAsg (tCallS (SpX T K (He.ga K) R__law_stays) (WE W) (tCons (tVar 0) (tCons (tC (.int 1)) (tCons (tVar 2) (tNil))))) (gName 3)) (tSeq (tAsg (tCB (XL.rMx3 K) (tCons (tOp (XL.rAdd K) (tLst (tCons (tC (.int 0)) (tNil))) (tLc (iList K (tVar 3)) (gName 5) (tYes) (tCall (SpX T K (He.ga K) R__law_load) [] E0 (tCons (tVar 3) (tCons (tOp (rIx K) (tVar 5) (tC (.int 0))) (tNil)))) [5])) (tNil))) (gName 4)) (tSeq (tAsg (tOp (XL.rMod) (tCB (XL.rInt) (tCons (tOp (rIx K) (tVar 1) (tC (.int 2))) (tNil))) (tOp (XL.rAdd K) (tVar 4) (tC (.int 1)))) (gName 6)) (tSeq (tIfS (tTest (tOp (rEqD K) (tOp (XL.rMod) (tCB (XL.rInt) (tCons (tOp (rIx K) (tVar 1) (tC (.int 3))) (tNil))) (tC (.int 4))) (tC (.int 0)))) (tAsg (tOp (rIx K) (tLst (tCons (tCB (XL.rInt) (tCons (tOp (rIx K) (tVar 1) (tC (.int 2))) (tNil))) (tCons (tC (.int 60)) (tNil)))) (tOp (XL.rMod) (tCB (XL.rInt) (tCons (tOp (XL.rDiv) (tOp (rIx K) (tVar 1) (tC (.int 3))) (tC (.int 4))) (tNil))) (tC (.int 2)))) (gName 6)) (tNext)) (tSeq (tAsg (tCallS (SpX T K (He.ga K) R__law_booked) (WE W) (tCons (tVar 3) (tCons (tVar 6) (tNil)))) (gName 7)) (tSeq (tAsg (tCB (XL.rLst K) (tCons (tVar 3) (tNil))) (gName 8)) (tSeq (tAsg (tCallS (SpX T K (He.ga K) R_most_bookings) (WE W) (tCons (tVar 8) (tCons (tVar 6) (tNil)))) (gName 9)) (tSeq (tIfS (tOr (tTest (tOp (rNeD K) (tVar 8) (tVar 3))) (tOr (tNot (tB (tCallS (SpX T K (He.ga K) R__law_members) (WE W) (tCons (tVar 9) (tCons (tVar 2) (tNil)))))) (tOr (tTest (tOp (rNeD K) (tVar 9) (tVar 7))) (tNot (tB (tCallS (SpX T K (He.ga K) R__law_is_accepted) (WE W) (tCons (tVar 3) (tCons (tVar 6) (tCons (tVar 9) (tNil)))))))))) (tRet (tC (.bl false))) (tNext)) (tSeq (tDrop (tBM K "list" rAppend (tVar 9) (tCons (tC (.int 3)) (tNil)))) (tSeq (tIfS (tTest (tOp (rNeD K) (tCallS (SpX T K (He.ga K) R_most_bookings) (WE W) (tCons (tVar 8) (tCons (tVar 6) (tNil)))) (tVar 7))) (tRet (tC (.bl false))) (tNext)) (tSeq (tIfS (tTest (tOp (XL.rLt) (tVar 2) (tC (.int 9)))) (tFor (iList K (tCallS (SpX T K (He.ga K) R__law_subsets) (WE W) (tCons (tVar 2) (tNil)))) (gName 10) (tIfS (tAnd (tTest (tOp (XL.rGt) (tCB (XL.rLen K) (tCons (tVar 10) (tNil))) (tCB (XL.rLen K) (tCons (tVar 7) (tNil))))) (tB (tCallS (SpX T K (He.ga K) R__law_is_accepted) (WE W) (tCons (tVar 3) (tCons (tVar 6) (tCons (tVar 10) (tNil))))))) (tRet (tC (.bl false))) (tNext))) (tNext)) (tSeq (tFor (iList K (tCallS (SpX T K (He.ga K) R__law_papers) (WE W) (tCons (tVar 0) (tCons (tC (.int 4)) (tCons (tVar 3) (tCons (tVar 7) (tNil))))))) (gName 11) (tSeq (tAsg (tVar 11) (gName 12)) (tSeq (tIfS (tB (tCB (rIsi K) (tCons (tVar 11) (tCons (tC (.ty "list")) tNil)))) (tAsg (tCB (XL.rLst K) (tCons (tVar 11) (tNil))) (gName 12)) (tNext)) (tSeq (tAsg (tCallS (SpX T K (He.ga K) R_is_accepted) (WE W) (tCons (tVar 8) (tCons (tVar 6) (tCons (tVar 12) (tNil))))) (gName 13)) (tSeq (tIfS (tOr (tNot (tB (tCB (rIsi K) (tCons (tVar 13) (tCons (tC (.ty "bool")) tNil))))) (tTest (tOp (rNeD K) (tVar 13) (tCallS (SpX T K (He.ga K) R__law_is_accepted) (WE W) (tCons (tVar 3) (tCons (tVar 6) (tCons (tVar 11) (tNil)))))))) (tRet (tC (.bl false))) (tNext)) (tIfS (tOr (tTest (tOp (rNeD K) (tVar 12) (tVar 11))) (tTest (tOp (rNeD K) (tVar 8) (tVar 3)))) (tRet (tC (.bl false))) (tNext))))))) (tRet (tCallS (SpX T K (He.ga K) R__law_spoilt) (WE W) (tCons (tVar 0) (tCons (tC (.int 6)) (tCons (tVar 3) (tCons (tVar 6) (tNil)))))))))))))))))))))
theorem sc_law : FnScope N_law ["script"] (defScope s_law) := ⟨rfl, rfl, rfl, by decide +kernel, rfl, by decide +kernel, by decide +kernel⟩
theorem b_law {R__law_spoilt R__law_papers R__law_is_accepted R_is_accepted R__law_subsets R_most_bookings R__law_members R__law_booked R__law_load R__law_stays R__law_row R__law_cell : List D → Res → Prop} (V : Nv K mg) (F__law_spoilt : FO P w K mg base 10 (He.fAd K ("_law_spoilt", none)) ["script", "at", "stays", "count"] (SpX T K (He.ga K) R__law_spoilt)) (F__law_papers : FO P w K mg base 3 (He.fAd K ("_law_papers", none)) ["script", "at", "stays", "base"] (SpX T K (He.ga K) R__law_papers)) (F__law_is_accepted : FO P w K mg base 3 (He.fAd K ("_law_is_accepted", none)) ["stays", "count", "members"] (SpX T K (He.ga K) R__law_is_accepted)) (F_is_accepted : FO P w K mg base 8 (He.fAd K ("is_accepted", none)) ["stays", "count", "members"] (SpX T K (He.ga K) R_is_accepted)) (F__law_subsets : FO P w K mg base 1 (He.fAd K ("_law_subsets", none)) ["many"] (SpX T K (He.ga K) R__law_subsets)) (F_most_bookings : FO P w K mg base 8 (He.fAd K ("most_bookings", none)) ["stays", "count"] (SpX T K (He.ga K) R_most_bookings)) (F__law_members : FO P w K mg base 2 (He.fAd K ("_law_members", none)) ["value", "many"] (SpX T K (He.ga K) R__law_members)) (F__law_booked : FO P w K mg base 2 (He.fAd K ("_law_booked", none)) ["stays", "count"] (SpX T K (He.ga K) R__law_booked)) (F__law_load : FO P w K mg base 2 (He.fAd K ("_law_load", none)) ["stays", "moment"] (SpX T K (He.ga K) R__law_load)) (F__law_stays : FO P w K mg base 2 (He.fAd K ("_law_stays", none)) ["script", "at", "many"] (SpX T K (He.ga K) R__law_stays)) (F__law_row : FO P w K mg base 1 (He.fAd K ("_law_row", none)) ["cell", "many", "limit"] (SpX T K (He.ga K) R__law_row)) (F__law_cell : FO P w K mg base 1 (He.fAd K ("_law_cell", none)) ["script", "k"] (SpX T K (He.ga K) R__law_cell)) : BodyOk P w K mg base 10 N_law "law" (defScope s_law) ("law", none) (defBody s_law) (t_law T K R__law_spoilt R__law_papers R__law_is_accepted R_is_accepted R__law_subsets R_most_bookings R__law_members R__law_booked R__law_load R__law_stays R__law_row R__law_cell) := fun A outer s H E hr =>
  pss_cons (ps_set (i := 1) sc_law.nd rfl (by first | exact Or.inl rfl | exact Or.inr rfl) (pe_fo F__law_row hr (by decide) rfl V.g__law_row (takes_of rfl rfl rfl rfl) (pa_cons (pe_fo F__law_cell hr (by decide) rfl V.g__law_cell (takes_of rfl rfl rfl rfl) (pa_cons (pv 0) (pa_cons (pe_int) (pa_nil)))) (pa_cons (pe_int) (pa_cons (pe_int) (pa_nil)))))) (pss_cons (ps_set (i := 2) sc_law.nd rfl (by first | exact Or.inl rfl | exact Or.inr rfl) (pe_callTy c_int rfl V.b_int boot_int (pa_cons (pe_ix ix_seq (pv 1) (pe_int) (fun _ _ => rfl)) (pa_nil)))) (pss_cons (ps_if (pt_cmpR (op_eqD hr.units) (pe_op o_mod (pe_callTy c_int rfl V.b_int boot_int (pa_cons (pe_ix ix_seq (pv 1) (pe_int) (fun _ _ => rfl)) (pa_nil))) (pe_int)) (pe_int) (nomark _)) (pss_one (ps_set (i := 2) sc_law.nd rfl (by first | exact Or.inl rfl | exact Or.inr rfl) (pe_op o_mod (pe_callTy c_int rfl V.b_int boot_int (pa_cons (pe_ix ix_seq (pv 1) (pe_int) (fun _ _ => rfl)) (pa_nil))) (pe_int)))) (pss_one (ps_if (pt_cmpR (op_eqD hr.units) (pe_op o_mod (pe_callTy c_int rfl V.b_int boot_int (pa_cons (pe_ix ix_seq (pv 1) (pe_int) (fun _ _ => rfl)) (pa_nil))) (pe_int)) (pe_int) (nomark _)) (pss_one (ps_set (i := 2) sc_law.nd rfl (by first | exact Or.inl rfl | exact Or.inr rfl) (pe_int))) (pss_nil)))) (pss_cons (ps_set (i := 3) sc_law.nd rfl (by first | exact Or.inl rfl | exact Or.inr rfl) (pe_fo F__law_stays hr (by decide) rfl V.g__law_stays (takes_of rfl rfl rfl rfl) (pa_cons (pv 0) (pa_cons (pe_int) (pa_cons (pv 2) (pa_nil)))))) (pss_cons (ps_set (i := 4) sc_law.nd rfl (by first | exact Or.inl rfl | exact Or.inr rfl) (pe_callB (c_max3 rfl hr.units) rfl V.b_max boot_max (pa_cons (pe_op o_add (pe_lst (pa_cons (pe_int) (pa_nil))) (pe_lc (own := [("stay", 5)]) (g := gName 5) rfl sc_law.nd (pi_list (pv 3)) (blkOk_by (own := [("stay", 5)]) (N := N_law) (sc := defScope s_law) (by decide +kernel)) (fun _ _ _ _ _ => pg_name (i := 5) sc_law.nd rfl (Or.inl rfl)) (fun _ _ _ _ _ => pts_nil) (fun _ _ _ _ _ => pe_fo0 F__law_load hr (by decide) rfl V.g__law_load (pa_cons (pv 3) (pa_cons (pe_ix ix_seq (pv 5) (pe_int) (fun _ _ => rfl)) (pa_nil)))))) (pa_nil)))) (pss_cons (ps_set (i := 6) sc_law.nd rfl (by first | exact Or.inl rfl | exact Or.inr rfl) (pe_op o_mod (pe_callTy c_int rfl V.b_int boot_int (pa_cons (pe_ix ix_seq (pv 1) (pe_int) (fun _ _ => rfl)) (pa_nil))) (pe_op o_add (pv 4) (pe_int)))) (pss_cons (ps_if (pt_cmpR (op_eqD hr.units) (pe_op o_mod (pe_callTy c_int rfl V.b_int boot_int (pa_cons (pe_ix ix_seq (pv 1) (pe_int) (fun _ _ => rfl)) (pa_nil))) (pe_int)) (pe_int) (nomark _)) (pss_one (ps_set (i := 6) sc_law.nd rfl (by first | exact Or.inl rfl | exact Or.inr rfl) (pe_ix ix_seq (pe_lst (pa_cons (pe_callTy c_int rfl V.b_int boot_int (pa_cons (pe_ix ix_seq (pv 1) (pe_int) (fun _ _ => rfl)) (pa_nil))) (pa_cons (pe_int) (pa_nil)))) (pe_op o_mod (pe_callTy c_int rfl V.b_int boot_int (pa_cons (pe_op o_div (pe_ix ix_seq (pv 1) (pe_int) (fun _ _ => rfl)) (pe_int)) (pa_nil))) (pe_int)) (fun _ _ => rfl)))) (pss_nil)) (pss_cons (ps_set (i := 7) sc_law.nd rfl (by first | exact Or.inl rfl | exact Or.inr rfl) (pe_fo F__law_booked hr (by decide) rfl V.g__law_booked (takes_of rfl rfl rfl rfl) (pa_cons (pv 3) (pa_cons (pv 6) (pa_nil))))) (pss_cons (ps_set (i := 8) sc_law.nd rfl (by first | exact Or.inl rfl | exact Or.inr rfl) (pe_callTy c_list rfl V.b_list boot_list (pa_cons (pv 3) (pa_nil)))) (pss_cons (ps_set (i := 9) sc_law.nd rfl (by first | exact Or.inl rfl | exact Or.inr rfl) (pe_fo F_most_bookings hr (by decide) rfl V.g_most_bookings (takes_of rfl rfl rfl rfl) (pa_cons (pv 8) (pa_cons (pv 6) (pa_nil))))) (pss_cons (ps_if (PW.pt (pw_or (pt_cmpR (op_neD hr.units) (pv 8) (pv 3) (nomark _)) (pw_or (pt_not (pt_val (pe_fo F__law_members hr (by decide) rfl V.g__law_members (takes_of rfl rfl rfl rfl) (pa_cons (pv 9) (pa_cons (pv 2) (pa_nil)))))) (pw_or (pt_cmpR (op_neD hr.units) (pv 9) (pv 7) (nomark _)) (pw_or1 (pt_not (pt_val (pe_fo F__law_is_accepted hr (by decide) rfl V.g__law_is_accepted (takes_of rfl rfl rfl rfl) (pa_cons (pv 3) (pa_cons (pv 6) (pa_cons (pv 9) (pa_nil)))))))))))) (pss_one (ps_ret (pe_bl))) (pss_nil)) (pss_cons (ps_expr (pe_bm PySem.F.plainAttrs_list PySem.F.slot_list_append PySem.F.type_list_append mt_append (pv 9) (pa_cons (pe_int) (pa_nil)))) (pss_cons (ps_if (pt_cmpR (op_neD hr.units) (pe_fo F_most_bookings hr (by decide) rfl V.g_most_bookings (takes_of rfl rfl rfl rfl) (pa_cons (pv 8) (pa_cons (pv 6) (pa_nil)))) (pv 7) (nomark _)) (pss_one (ps_ret (pe_bl))) (pss_nil)) (pss_cons (ps_if (pt_cmpR o_lt (pv 2) (pe_int) (nomark _)) (pss_one (ps_for (passes_of rfl) rfl (pi_list (pe_fo F__law_subsets hr (by decide) rfl V.g__law_subsets (takes_of rfl rfl rfl rfl) (pa_cons (pv 2) (pa_nil)))) (pg_name (i := 10) sc_law.nd rfl (by first | exact Or.inl rfl | exact Or.inr rfl)) (pss_one (ps_if (PW.pt (pw_and (pt_cmpR o_gt (pe_callB c_len rfl V.b_len boot_len (pa_cons (pv 10) (pa_nil))) (pe_callB c_len rfl V.b_len boot_len (pa_cons (pv 7) (pa_nil))) (nomark _)) (pw_and1 (pt_val (pe_fo F__law_is_accepted hr (by decide) rfl V.g__law_is_accepted (takes_of rfl rfl rfl rfl) (pa_cons (pv 3) (pa_cons (pv 6) (pa_cons (pv 10) (pa_nil))))))))) (pss_one (ps_ret (pe_bl))) (pss_nil))))) (pss_nil)) (pss_cons (ps_for (passes_of rfl) rfl (pi_list (pe_fo F__law_papers hr (by decide) rfl V.g__law_papers (takes_of rfl rfl rfl rfl) (pa_cons (pv 0) (pa_cons (pe_int) (pa_cons (pv 3) (pa_cons (pv 7) (pa_nil))))))) (pg_name (i := 11) sc_law.nd rfl (by first | exact Or.inl rfl | exact Or.inr rfl)) (pss_cons (ps_set (i := 12) sc_law.nd rfl (by first | exact Or.inl rfl | exact Or.inr rfl) (pv 11)) (pss_cons (ps_if (pt_val (pe_callB call_isi rfl V.b_isinstance boot_isinstance (pa_cons (pv 11) (pa_cons (pe_bltn rfl V.b_list boot_list rfl) pa_nil)))) (pss_one (ps_set (i := 12) sc_law.nd rfl (by first | exact Or.inl rfl | exact Or.inr rfl) (pe_callTy c_list rfl V.b_list boot_list (pa_cons (pv 11) (pa_nil))))) (pss_nil)) (pss_cons (ps_set (i := 13) sc_law.nd rfl (by first | exact Or.inl rfl | exact Or.inr rfl) (pe_fo F_is_accepted hr (by decide) rfl V.g_is_accepted (takes_of rfl rfl rfl rfl) (pa_cons (pv 8) (pa_cons (pv 6) (pa_cons (pv 12) (pa_nil)))))) (pss_cons (ps_if (PW.pt (pw_or (pt_not (pt_val (pe_callB call_isi rfl V.b_isinstance boot_isinstance (pa_cons (pv 13) (pa_cons (pe_bltn rfl V.b_bool boot_bool rfl) pa_nil))))) (pw_or1 (pt_cmpR (op_neD hr.units) (pv 13) (pe_fo F__law_is_accepted hr (by decide) rfl V.g__law_is_accepted (takes_of rfl rfl rfl rfl) (pa_cons (pv 3) (pa_cons (pv 6) (pa_cons (pv 11) (pa_nil))))) (nomark _))))) (pss_one (ps_ret (pe_bl))) (pss_nil)) (pss_one (ps_if (PW.pt (pw_or (pt_cmpR (op_neD hr.units) (pv 12) (pv 11) (nomark _)) (pw_or1 (pt_cmpR (op_neD hr.units) (pv 8) (pv 3) (nomark _))))) (pss_one (ps_ret (pe_bl))) (pss_nil)))))))) (pss_one (ps_ret (pe_fo F__law_spoilt hr (by decide) rfl V.g__law_spoilt (takes_of rfl rfl rfl rfl) (pa_cons (pv 0) (pa_cons (pe_int) (pa_cons (pv 3) (pa_cons (pv 6) (pa_nil))))))))))))))))))))))
theorem fo_law {R__law_spoilt R__law_papers R__law_is_accepted R_is_accepted R__law_subsets R_most_bookings R__law_members R__law_booked R__law_load R__law_stays R__law_row R__law_cell : List D → Res → Prop} {R_law : List D → Res → Prop} (c : ∃ fd, FunD K "law" "law" (defArgs s_law) (defBody s_law) (defScope s_law) [] [] (He.fAd K ("law", none)) fd) (V : Nv K mg) (F__law_spoilt : FO P w K mg base 10 (He.fAd K ("_law_spoilt", none)) ["script", "at", "stays", "count"] (SpX T K (He.ga K) R__law_spoilt)) (F__law_papers : FO P w K mg base 3 (He.fAd K ("_law_papers", none)) ["script", "at", "stays", "base"] (SpX T K (He.ga K) R__law_papers)) (F__law_is_accepted : FO P w K mg base 3 (He.fAd K ("_law_is_accepted", none)) ["stays", "count", "members"] (SpX T K (He.ga K) R__law_is_accepted)) (F_is_accepted : FO P w K mg base 8 (He.fAd K ("is_accepted", none)) ["stays", "count", "members"] (SpX T K (He.ga K) R_is_accepted)) (F__law_subsets : FO P w K mg base 1 (He.fAd K ("_law_subsets", none)) ["many"] (SpX T K (He.ga K) R__law_subsets)) (F_most_bookings : FO P w K mg base 8 (He.fAd K ("most_bookings", none)) ["stays", "count"] (SpX T K (He.ga K) R_most_bookings)) (F__law_members : FO P w K mg base 2 (He.fAd K ("_law_members", none)) ["value", "many"] (SpX T K (He.ga K) R__law_members)) (F__law_booked : FO P w K mg base 2 (He.fAd K ("_law_booked", none)) ["stays", "count"] (SpX T K (He.ga K) R__law_booked)) (F__law_load : FO P w K mg base 2 (He.fAd K ("_law_load", none)) ["stays", "moment"] (SpX T K (He.ga K) R__law_load)) (F__law_stays : FO P w K mg base 2 (He.fAd K ("_law_stays", none)) ["script", "at", "many"] (SpX T K (He.ga K) R__law_stays)) (F__law_row : FO P w K mg base 1 (He.fAd K ("_law_row", none)) ["cell", "many", "limit"] (SpX T K (He.ga K) R__law_row)) (F__law_cell : FO P w K mg base 1 (He.fAd K ("_law_cell", none)) ["script", "k"] (SpX T K (He.ga K) R__law_cell)) (hR : ∀ ds r, R_law ds r → ds.length = 1) (hw : Walks T K N_law (t_law T K R__law_spoilt R__law_papers R__law_is_accepted R_is_accepted R__law_subsets R_most_bookings R__law_members R__law_booked R__law_load R__law_stays R__law_row R__law_cell) R_law) : FO P w K mg base 11 (He.fAd K ("law", none)) ["script"] (SpX T K (He.ga K) R_law) :=
  FO.ofX c sc_law (fun _ _ _ _ _ _ us hl => match us, hl with | [_], _ => rfl) hR (b_law V F__law_spoilt F__law_papers F__law_is_accepted F_is_accepted F__law_subsets F_most_bookings F__law_members F__law_booked F__law_load F__law_stays F__law_row F__law_cell) hw
end
end K25
local macro_rules
  | `(tactic| walk_at "side") => `(tactic| first | exact rfl | assumption | omega | (simp; done) | decide | (simp at *; omega))
local macro_rules
  | `(tactic| walk_at "mono") => `(tactic| first | exact XL.mono_pd | exact XL.mono_pl | exact XL.mono_pt)
local macro_rules
  | `(tactic| walk_at "rel") => `(tactic| first
    | exact ⟨rfl, rfl⟩ | exact ⟨_, rfl, rfl⟩ | exact ⟨_, _, rfl, rfl⟩ | exact ⟨_, _, _, rfl, rfl⟩ | exact ⟨_, _, _, _, rfl, rfl⟩ | exact ⟨_, _, _, _, _, rfl, rfl⟩
    | (refine ⟨_, rfl, rfl, ?_⟩; walk_at "side") | (refine ⟨_, _, rfl, rfl, ?_⟩; walk_at "side") | (refine ⟨_, _, _, rfl, rfl, ?_⟩; walk_at "side") | (refine ⟨_, _, _, _, rfl, rfl, ?_⟩; walk_at "side"))
local macro_rules
  | `(tactic| walk_at "op") => `(tactic| first
    | (with_reducible exact XL.rd_add) | (with_reducible exact XL.rd_sub) | (with_reducible exact XL.rd_lt) | (with_reducible exact XL.rd_le) | (with_reducible exact XL.rd_gt) | (with_reducible exact XL.rd_ge)
    | (with_reducible exact XL.rd_isN) | (with_reducible exact XL.rd_notN) | (with_reducible exact XL.rd_isNL) | (with_reducible exact XL.rd_notNL)
    | ((with_reducible apply XL.rd_div) <;> walk_at "side") | ((with_reducible apply XL.rd_mod); walk_at "side") | ((with_reducible apply XL.rd_mul); walk_at "mul") | ((with_reducible apply XL.rd_pow); walk_at "side")
    | ((with_reducible apply XL.rd_eq) <;> walk_at "shp") | ((with_reducible apply XL.rd_ne) <;> walk_at "shp")
    | ((with_reducible apply XL.rd_eqLD) <;> walk_at "shp") | ((with_reducible apply XL.rd_neLD) <;> walk_at "shp")
    | ((with_reducible apply XL.rd_eqDL) <;> walk_at "shp") | ((with_reducible apply XL.rd_neDL) <;> walk_at "shp")
    | ((with_reducible apply XL.rd_eqLL) <;> walk_at "shp") | ((with_reducible apply XL.rd_neLL) <;> walk_at "shp")
    | ((with_reducible apply XL.rd_ixScr); walk_at "at") | ((with_reducible apply XL.rd_ixT); walk_at "at") | ((with_reducible apply XL.rd_ixL); walk_at "at") | ((with_reducible apply XL.RD2.l1); (with_reducible apply XL.rd_ixL); walk_at "at")
    | ((with_reducible apply XL.rd_in) <;> walk_at "flat") | ((with_reducible apply XL.rd_notin) <;> walk_at "flat")
    | ((with_reducible apply XL.RD2.l2); (with_reducible apply XL.rd_in) <;> walk_at "flat") | ((with_reducible apply XL.RD2.l2); (with_reducible apply XL.rd_notin) <;> walk_at "flat"))
local macro_rules
  | `(tactic| walk_at "mul") => `(tactic| first | (left; constructor <;> omega) | (right; constructor <;> omega) | assumption)
local macro_rules
  | `(tactic| walk_at "shp") => `(tactic| first | exact rfl | assumption | (simp [SeqAt.shaped]; done))
local macro_rules
  | `(tactic| walk_at "flat") => `(tactic| first | exact rfl | assumption | (simp [XL.flat]; done))
local macro_rules
  | `(tactic| walk_at "at") => `(tactic| first | exact rfl | assumption | exact XL.at_map (by assumption) | exact XL.atI_nat' (by assumption))
local macro_rules
  | `(tactic| walk_at "ra") => `(tactic| first
    | (with_reducible exact XL.ra_lenL) | (with_reducible exact XL.ra_lenT) | (with_reducible exact XL.RA1.l XL.ra_lenL) | (with_reducible exact XL.ra_lenScr)
    | (with_reducible exact XL.ra_abs) | (with_reducible exact XL.ra_int)
    | ((with_reducible apply XL.ra_maxL); walk_at "side") | (with_reducible exact XL.ra_all) | (with_reducible exact XL.ra_any) | (with_reducible exact XL.ra_tuple) | (with_reducible exact XL.RA1.l XL.ra_tuple)
    | (with_reducible exact XL.ra_sum (hc := trivial)))
local macro_rules
  | `(tactic| walk_at "evn") => `(tactic| first
    | ((with_reducible apply XL.evn_lst); (focus walk_at "ea"); (focus walk_at "side"))
    | ((with_reducible apply XL.evn_op); rotate_left; (focus walk_at "ev"); (focus walk_at "ev"); (focus walk_at "opn"); (focus walk_at "mono"))
    | ((with_reducible apply XL.evn_b1); (focus walk_at "ev"); (focus first | (with_reducible exact XL.ran_list) | (with_reducible exact XL.RA1N.l XL.ran_list) | (with_reducible exact XL.ran_listT) | (with_reducible exact XL.ran_sortI) | (with_reducible exact XL.ran_sortP)))
    | ((with_reducible apply XL.evn_sl); (focus first | walk_at "ev" | (apply XL.Ev.toL; walk_at "ev")); (focus walk_at "eo"); (focus walk_at "eo"))
    | ((with_reducible apply XL.evn_callS); (focus walk_at "ea"); (focus walk_at "rel"))
    | ((with_reducible apply XL.evn_call); (focus walk_at "ea"); (focus walk_at "rel")))
local macro_rules
  | `(tactic| walk_at "eo") => `(tactic| first | exact XL.eo_none | (apply XL.eo_some; walk_at "ev"))
local macro_rules
  | `(tactic| walk_at "opn") => `(tactic| first
    | ((with_reducible apply XL.rdn_cat); walk_at "side") | ((with_reducible apply XL.RD2N.l1); (with_reducible apply XL.rdn_cat); walk_at "side") | ((with_reducible apply XL.RD2N.l2); (with_reducible apply XL.rdn_cat); walk_at "side") | ((with_reducible apply XL.RD2N.l1); (with_reducible apply XL.RD2N.l2); (with_reducible apply XL.rdn_cat); walk_at "side")
    | ((with_reducible apply XL.rdn_rep) <;> walk_at "side"))
local macro_rules
  | `(tactic| walk_at "ev") => `(tactic| first
    | (with_reducible exact XL.ev_int) | (with_reducible exact XL.ev_bl) | (with_reducible exact XL.ev_str) | (with_reducible exact XL.ev_non)
    | ((with_reducible apply XL.ev_var); exact rfl) | ((with_reducible apply XL.evl_own); exact rfl)
    | ((with_reducible apply XL.ev_isi); (focus walk_at "ev"); (focus (simp [XL.five]; done)))
    | ((with_reducible apply XL.ev_op); rotate_left; (focus walk_at "ev"); (focus walk_at "ev"); (focus walk_at "op"); (focus walk_at "mono"))
    | ((with_reducible apply XL.ev_un); (focus walk_at "ev"); (focus (with_reducible exact XL.ra_neg)))
    | ((with_reducible apply XL.ev_b1); (focus walk_at "ev"); (focus walk_at "ra"))
    | ((with_reducible apply XL.ev_b2); rotate_left; (focus walk_at "ev"); (focus walk_at "ev"); (focus first | (with_reducible exact XL.ra_max2) | (with_reducible exact XL.ra_min2)); (focus walk_at "mono"))
    | ((with_reducible apply XL.ev_tup); (focus walk_at "ea"); (focus walk_at "side"))
    | ((with_reducible apply XL.ev_notV); walk_at "ev")
    | ((with_reducible apply XL.ev_andV); (focus walk_at "ev"); (focus (intro h; walk_at "ev"))) | ((with_reducible apply XL.ev_orV); (focus walk_at "ev"); (focus (intro h; walk_at "ev")))
    | ((with_reducible apply XL.ev_callS); (focus walk_at "ea"); (focus walk_at "rel"))
    | ((with_reducible apply XL.ev_call); (focus walk_at "ea"); (focus walk_at "rel"))
    | ((with_reducible apply XL.EvN.toL); walk_at "evn") | ((with_reducible apply XL.EvN.toD); walk_at "evn"))
local macro_rules
  | `(tactic| walk_at "nd") => `(tactic| first | (intro kv z; cases z; done) | assumption | (intro kv z; simp_all; done))
local macro_rules
  | `(tactic| walk_at "ea") => `(tactic| first | exact XL.ea_nil | (apply XL.ea_cons; (focus walk_at "ev"); (focus walk_at "ea")))
local macro_rules
  | `(tactic| walk_at "et") => `(tactic| first
    | ((with_reducible apply XL.et_test); walk_at "ev") | ((with_reducible apply XL.et_B); walk_at "ev") | ((with_reducible apply XL.et_not); walk_at "et")
    | ((with_reducible apply XL.et_and); (focus walk_at "et"); (focus (intro h; walk_at "et"))) | ((with_reducible apply XL.et_or); (focus walk_at "et"); (focus (intro h; walk_at "et"))))
local macro_rules
  | `(tactic| walk_at "evd") => `(tactic| (apply XL.EvV.is; (focus walk_at "ev"); (focus walk_at "fin")))
local macro_rules
  | `(tactic| walk_at "evnd") => `(tactic| (apply XL.EvN.is; (focus walk_at "evn"); (focus walk_at "fin")))
local macro_rules
  | `(tactic| walk_at "etd") => `(tactic| (apply XL.EvT.is; (focus walk_at "et"); (focus walk_at "fin")))
local macro_rules
  | `(tactic| walk_at "fin") => `(tactic| first | exact rfl | (simp; done) | assumption | (simp [*]; done))
local macro_rules
  | `(tactic| walk_at "wk") => `(tactic| first | exact XL.Wk.nil | (apply XL.Wk.same; walk_at "wk") | (apply XL.Wk.any; walk_at "wk"))
local macro_rules
  | `(tactic| walk_at "len") => `(tactic| (intro ds r h; first | (rcases h with ⟨e, _⟩; subst e; exact rfl) | (rcases h with ⟨_, e, _⟩; subst e; exact rfl) | (rcases h with ⟨_, _, e, _⟩; subst e; exact rfl) | (rcases h with ⟨_, _, _, e, _⟩; subst e; exact rfl) | (rcases h with ⟨_, _, _, _, e, _⟩; subst e; exact rfl) | (rcases h with ⟨_, _, _, _, _, e, _⟩; subst e; exact rfl) | (rcases h with ⟨_, _, _, _, _, _, e, _⟩; subst e; exact rfl) | (rcases h with ⟨_, _, _, _, _, _, _, e, _⟩; subst e; exact rfl) | (rcases h with ⟨_, _, _, _, _, _, _, _, e, _⟩; subst e; exact rfl)))
namespace K25
open PySem L2 XL
section
variable {T : Tbs} {K : PySem.W.Frag}
def R_is_integer (ds : List D) (r : Res) : Prop := ∃ d, ds = [d] ∧ r = .ok (.bool (isInt d))
theorem w_is_integer : Walks T K N_is_integer (t_is_integer T K) R_is_integer := by
  rintro W ds r ⟨d, rfl, rfl⟩
  unfold t_is_integer
  refine ⟨.rt (.bool (isInt d)), xs_ret ?_, rfl⟩
  rw [← isC_int]
  walk_at "ev"
def R_in_range (ds : List D) (r : Res) : Prop := ∃ d lo hi, ds = [d, .int lo, .int hi] ∧ r = .ok (.bool (inR d lo hi))
theorem w_in_range : Walks T K N_in_range (t_in_range T K R_is_integer) R_in_range := by
  rintro W ds r ⟨d, lo, hi, rfl, rfl⟩
  unfold t_in_range
  refine ⟨.rt (.bool (inR d lo hi)), xs_ret ?_, rfl⟩
  cases q : isInt d with
  | true =>
    obtain ⟨n, rfl⟩ := isInt_inv q
    apply ev_andT
    · rw [← q]; walk_at "ev"
    · walk_at "evd"
  | false =>
    rw [inR_no q]
    apply ev_andF
    rw [← q]; walk_at "ev"
def eRange (d : D) (lo hi : Int) (w : Str) : Er := if inR d lo hi then none else bad w
def R_need_range (ds : List D) (r : Res) : Prop := ∃ d lo hi w, ds = [d, .int lo, .int hi, .str w] ∧ r = erR (eRange d lo hi w)
theorem w_need_range (hex : exAllB K exs = true) : Walks T K N_need_range (t_need_range T K R_in_range) R_need_range := by
  rintro W ds r ⟨d, lo, hi, w, rfl, rfl⟩
  unfold t_need_range
  refine ⟨_, ?_, er_out (ρ := st0 N_need_range [d, .int lo, .int hi, .str w])⟩
  unfold eRange
  cases q : inR d lo hi with
  | true =>
    apply xs_ifF
    · walk_at "etd"
    · exact xs_next
  | false =>
    apply xs_ifT
    · walk_at "etd"
    · refine xs_raiseC (exs := exs) hex (by simp [exs]) ?_
      walk_at "ev"
def isDict : D → Bool
  | .dict _ => true
  | _ => false
def eList (d : D) (lim : Int) (w : Str) : Er := match d with
  | .list l => if (l.length : Int) > lim then tooMany lim else none
  | _ => bad w
def R_need_list (ds : List D) (r : Res) : Prop := ∃ d lim w, ds = [d, .int lim, .str w] ∧ r = erR (eList d lim w) ∧ isDict d = false
theorem w_need_list (hex : exAllB K exs = true) : Walks T K N_need_list (t_need_list T K) R_need_list := by
  rintro W ds r ⟨d, lim, w, rfl, rfl, hd⟩
  unfold t_need_list
  refine ⟨_, ?_, er_out (ρ := st0 N_need_list [d, .int lim, .str w])⟩
  cases d with
  | dict kv => cases hd
  | list l =>
    simp only [eList]
    apply xs_else
    · walk_at "etd"
    · by_cases q : (l.length : Int) > lim
      · rw [if_pos q]
        apply xs_ifT
        · walk_at "etd"
        · refine xs_raiseC (exs := exs) hex (by simp [exs]) ?_
          walk_at "ev"
      · rw [if_neg q]
        apply xs_ifF
        · walk_at "etd"
        · exact xs_next
  | _ =>
    refine xs_thenL ?_ trivial (xs_raiseC (exs := exs) hex (by simp [exs]) (ev_var rfl))
    walk_at "etd"
def isTime (d : D) : Bool := inR d 0 1000000
def R_is_time (ds : List D) (r : Res) : Prop := ∃ d, ds = [d] ∧ r = .ok (.bool (isTime d))
theorem w_is_time : Walks T K N_is_time (t_is_time T K R_in_range) R_is_time := by
  rintro W ds r ⟨d, rfl, rfl⟩
  unfold t_is_time
  refine ⟨.rt (.bool (isTime d)), xs_ret ?_, rfl⟩
  walk_at "evd"
def ltD : D → D → Bool
  | .int x, .int y => decide (x < y)
  | _, _ => false
def isStay : D → Bool
  | .tuple [a, b] => isTime a && (isTime b && ltD a b)
  | _ => false
def R_is_stay (ds : List D) (r : Res) : Prop := ∃ d, ds = [d] ∧ r = .ok (.bool (isStay d))
theorem w_is_stay : Walks T K N_is_stay (t_is_stay T K R_is_time) R_is_stay := by
  rintro W ds r ⟨d, rfl, rfl⟩
  unfold t_is_stay
  have no : isStay d = false → ∀ t : XS T K (He.ga K) W (tIfS (tOr (tNot (tB (tCB (rIsi K) (tCons (tVar 0) (tCons (tC (.ty "tuple")) tNil))))) (tTest (tOp (rNeD K) (tCB (XL.rLen K) (tCons (tVar 0) (tNil))) (tC (.int 2))))) (tRet (tC (.bl false))) (tNext)) (st0 N_is_stay [d]) (.rt (.bool false)), ∃ o, XS T K (He.ga K) W (tSeq (tIfS (tOr (tNot (tB (tCB (rIsi K) (tCons (tVar 0) (tCons (tC (.ty "tuple")) tNil))))) (tTest (tOp (rNeD K) (tCB (XL.rLen K) (tCons (tVar 0) (tNil))) (tC (.int 2))))) (tRet (tC (.bl false))) (tNext)) (tRet (tAndV (tCallS (SpX T K (He.ga K) R_is_time) (WE W) (tCons (tOp (rIx K) (tVar 0) (tC (.int 0))) (tNil))) (tAndV (tCallS (SpX T K (He.ga K) R_is_time) (WE W) (tCons (tOp (rIx K) (tVar 0) (tC (.int 1))) (tNil))) (tOp (XL.rLt) (tOp (rIx K) (tVar 0) (tC (.int 0))) (tOp (rIx K) (tVar 0) (tC (.int 1)))))))) (st0 N_is_stay [d]) o ∧ OutRes o (.ok (.bool (isStay d))) := fun e t => ⟨.rt (.bool false), xs_leave t trivial, by rw [e]; rfl⟩
  have len : ∀ l : List D, l.length ≠ 2 → isStay (.tuple l) = false := fun l h => by
    match l, h with
    | [], _ => rfl
    | [a], _ => rfl
    | [a, b], h => exact absurd rfl h
    | a :: b :: c :: l, _ => rfl
  cases d with
  | tuple l =>
    by_cases h2 : l.length = 2
    · match l, h2 with
      | [a, b], _ =>
        refine ⟨.rt (.bool (isTime a && (isTime b && ltD a b))), xs_else ?_ (xs_ret ?_), rfl⟩
        · apply et_orF
          · walk_at "etd"
          · walk_at "etd"
        · cases qa : isTime a with
          | false =>
            apply ev_andF
            rw [← qa]; walk_at "ev"
          | true =>
            apply ev_andT
            · rw [← qa]; walk_at "ev"
            · cases qb : isTime b with
              | false =>
                apply ev_andF
                rw [← qb]; walk_at "ev"
              | true =>
                apply ev_andT
                · rw [← qb]; walk_at "ev"
                · obtain ⟨x, rfl, _⟩ := inR_inv qa
                  obtain ⟨y, rfl, _⟩ := inR_inv qb
                  walk_at "evd"
    · refine no (len l h2) (xs_ifT ?_ (xs_ret ev_bl))
      apply et_orF
      · walk_at "etd"
      · apply EvT.is
        (focus walk_at "et")
        rw [eqv_ii]
        simp
        omega
  | _ =>
    refine no rfl (xs_ifT ?_ (xs_ret ev_bl))
    apply et_orT
    walk_at "etd"
def eStay (d : D) (w : Str) : Er := if isStay d then none else bad w
def R_need_stay (ds : List D) (r : Res) : Prop := ∃ d w, ds = [d, .str w] ∧ r = erR (eStay d w)
theorem w_need_stay (hex : exAllB K exs = true) : Walks T K N_need_stay (t_need_stay T K R_is_stay) R_need_stay := by
  rintro W ds r ⟨d, w, rfl, rfl⟩
  unfold t_need_stay
  refine ⟨_, ?_, er_out (ρ := st0 N_need_stay [d, .str w])⟩
  unfold eStay
  cases q : isStay d with
  | true =>
    apply xs_ifF
    · walk_at "etd"
    · exact xs_next
  | false =>
    apply xs_ifT
    · walk_at "etd"
    · refine xs_raiseC (exs := exs) hex (by simp [exs]) ?_
      walk_at "ev"
def eStays (d : D) (lim : Int) (w : Str) : Er := (eList d lim w).andThen (match d with
  | .list l => if l.all isStay then none else bad w
  | _ => none)
theorem loop_all {α : Type} {p : α → Bool} {c : Str} {fs : List (Str × D)} : ∀ {l : List α}, loopM (fun (_ : Unit) a => if p a then LS.go () else .ex c fs) l () = if l.all p then LS.go () else .ex c fs
  | [] => rfl
  | a :: l => by
    cases h : p a with
    | true =>
      simp only [loopM, h, if_true, List.all_cons, Bool.true_and]
      exact loop_all
    | false => simp [loopM, h]
def R_need_stays (ds : List D) (r : Res) : Prop := ∃ d lim w, ds = [d, .int lim, .str w] ∧ r = erR (eStays d lim w) ∧ isDict d = false
theorem w_need_stays : Walks T K N_need_stays (t_need_stays T K R_need_stay R_need_list) R_need_stays := by
  rintro W ds r ⟨d, lim, w, rfl, rfl, hd⟩
  unfold t_need_stays
  have chk : EvW T K W (tCallS (SpX T K (He.ga K) R_need_list) (WE W) (tCons (tVar 0) (tCons (tVar 1) (tCons (tVar 2) (tNil))))) (st0 N_need_stays [d, .int lim, .str w]) (erR (eList d lim w)) := evw_call (by walk_at "ea") ⟨_, _, _, rfl, rfl, hd⟩
  cases q : eList d lim w with
  | some p =>
    refine ⟨.ex p.1 p.2 (st0 N_need_stays [d, .int lim, .str w]), xs_chkW (e := some p) (q ▸ chk) (fun z => by cases z) (fun p2 z => by cases z; rfl), ?_⟩
    unfold eStays
    rw [q]
    exact ⟨rfl, rfl⟩
  | none =>
    cases d with
    | list l =>
      refine ⟨lsOut (fun _ : Unit => [.dat (.list l), .dat (.int lim), .dat (.str w), .any]) [.dat (.list l), .dat (.int lim), .dat (.str w), .any] (loopM (fun (_ : Unit) a => if isStay a then LS.go () else .ex "BadValue" [("what", .str w)]) l ()), xs_chkW (e := none) (q ▸ chk) (fun _ => ?_) (fun p z => by cases z), ?_⟩
      · refine xs_for (e := fun d : D => d) (I := fun _ _ => True) ?_ ?_ trivial fun i s a ha _ => ?_
        · apply EvV.is
          (focus walk_at "ev")
          simp
        · walk_at "wk"
        · refine ⟨_, xs_need (e := eStay a w) (evw_call (ds := [a, .str w]) (by walk_at "ea") ⟨_, _, rfl, rfl⟩), ?_, fun _ _ => trivial⟩
          unfold eStay
          cases isStay a with
          | true => show Wk _ _; walk_at "wk"
          | false => exact ⟨rfl, rfl, by walk_at "wk"⟩
      · rw [loop_all]
        unfold eStays
        rw [q]
        show OutRes _ (erR (if l.all isStay then none else bad w))
        cases l.all isStay with
        | true => rfl
        | false => exact ⟨rfl, rfl⟩
    | _ => cases q
def eShared (d c : D) (w : Str) : Er := (eStays d 60 w).andThen (eRange c 0 60 "count")
def R_need_shared (ds : List D) (r : Res) : Prop := ∃ d c w, ds = [d, c, .str w] ∧ r = erR (eShared d c w) ∧ isDict d = false
theorem w_need_shared : Walks T K N_need_shared (t_need_shared T K R_need_range R_need_stays) R_need_shared := by
  rintro W ds r ⟨d, c, w, rfl, rfl, hd⟩
  unfold t_need_shared
  refine ⟨_, ?_, er_out (ρ := st0 N_need_shared [d, c, .str w])⟩
  refine xs_chk2 (xs_need (evw_call (ds := [d, .int 60, .str w]) (by walk_at "ea") ⟨_, _, _, rfl, rfl, hd⟩)) (xs_need (evw_call (ds := [c, .int 0, .int 60, .str "count"]) (by walk_at "ea") ⟨_, _, _, _, rfl, rfl⟩))
def hasM (s : Int × Int) (m : Int) : Bool := decide (s.1 ≤ m) && decide (m < s.2)
def loadL (ss : List (Int × Int)) (m : Int) : Int := ((ss.filter fun s => hasM s m).length : Int)
abbrev sD (ss : List (Int × Int)) : D := .list (ss.map pairD)
def stayAt (ss : List (Int × Int)) (k : Nat) : Int × Int := (ss[k]?).getD (0, 0)
def keyAt (ss : List (Int × Int)) (k : Nat) : Int × Int := ((stayAt ss k).1, (k : Int))
def order (ss : List (Int × Int)) : List Nat := (List.range ss.length).mergeSort fun a b => leP (keyAt ss a) (keyAt ss b)
theorem stay_at {ss : List (Int × Int)} {k : Nat} (h : k < ss.length) : ss[k]? = some (stayAt ss k) := by
  unfold stayAt
  rw [List.getElem?_eq_getElem h]
  rfl
theorem order_mem {ss : List (Int × Int)} {k : Nat} : k ∈ order ss ↔ k < ss.length := by
  unfold order
  rw [(List.mergeSort_perm _ _).mem_iff, List.mem_range]
def intsOf (ds : List D) : List Int := ds.map fun d => match d with
  | .int n => n
  | _ => 0
theorem loop_find {α : Type} {p : α → Bool} {f : α → D} : ∀ {l : List α}, loopM (fun (_ : Unit) a => if p a then LS.rt (f a) else .go ()) l () = match l.find? p with
    | some a => .rt (f a)
    | none => .go ()
  | [] => rfl
  | a :: l => by
    cases h : p a with
    | true => simp [loopM, h, List.find?_cons]
    | false =>
      simp only [loopM, h, List.find?_cons]
      exact loop_find
theorem fold_opt {α β : Type} {f : α → Option β} : ∀ {l : List α} {acc : List β}, l.foldl (fun acc a => acc ++ (f a).toList) acc = acc ++ l.filterMap f
  | [], acc => by simp
  | a :: l, acc => by
    rw [List.foldl_cons, fold_opt, List.filterMap_cons]
    cases f a <;> simp
theorem inD_int {x : Int} {l : List Int} : inD (.int x) (l.map .int) = decide (x ∈ l) := by
  unfold inD
  rw [List.any_map]
  induction l with
  | nil => simp
  | cons a l ih =>
    rw [List.any_cons, ih]
    simp only [Function.comp, eqv_ii, List.mem_cons]
    by_cases h : a = x
    · simp [h]
    · have h' : ¬ x = a := fun z => h z.symm
      simp [h, h']
theorem flat_ints {l : List Int} : (l.map PyData.int).all flat = true := by
  rw [List.all_eq_true]
  intro d hd
  obtain ⟨i, _, rfl⟩ := List.mem_map.mp hd
  rfl
def R_has_moment (ds : List D) (r : Res) : Prop := ∃ (s : Int × Int) (m : Int), ds = [pairD s, .int m] ∧ r = .ok (.bool (hasM s m))
theorem w_has_moment : Walks T K N_has_moment (t_has_moment T K) R_has_moment := by
  rintro W ds r ⟨s, m, rfl, rfl⟩
  unfold t_has_moment
  refine ⟨.rt (.bool (hasM s m)), xs_ret ?_, rfl⟩
  walk_at "evd"
theorem keyAt_data (ss : List (Int × Int)) : (PySem.W.dataLe false fun k : Nat => pairD (keyAt ss k)) = fun a b => leP (keyAt ss a) (keyAt ss b) := by
  have := PySem.W.dataLe_ii (fun k : Nat => (keyAt ss k).1) (fun k : Nat => (keyAt ss k).2)
  exact this
def R_stay_order (ds : List D) (r : Res) : Prop := ∃ (ss : List (Int × Int)), ds = [sD ss] ∧ r = .new ((order ss).map fun k : Nat => .int (k : Int)) ∧ ss.length ≤ 1000
theorem w_stay_order : Walks T K N_stay_order (t_stay_order T K) R_stay_order := by
  rintro W ds r ⟨ss, rfl, rfl, hz⟩
  unfold t_stay_order
  refine ⟨.rn ((order ss).map fun k : Nat => .int (k : Int)), xs_retN ?_, rfl⟩
  apply EvN.is
  · refine evn_sortk (l := List.range ss.length) (e := fun k : Nat => .int (k : Int)) (key := fun k : Nat => pairD (keyAt ss k)) (es_rng (z := (ss.length : Int)) ?_ rfl (by omega)) (by rw [List.length_range]; omega) rfl rfl ?_ ?_ ?_ ?_ fun k hk => ?_
    · apply EvV.is
      · walk_at "ev"
      · rw [List.length_map]
    · intro d hd d' hd'
      obtain ⟨a, _, rfl⟩ := List.mem_map.mp hd
      obtain ⟨b, _, rfl⟩ := List.mem_map.mp hd'
      rfl
    · refine .inl fun d hd => ?_
      obtain ⟨a, _, rfl⟩ := List.mem_map.mp hd
      exact ⟨_, _, rfl⟩
    · intro a _
      exact Nat.le_trans (shp_pairD (n := 0)).d (by omega)
    · intro a _
      exact (shp_pairD (n := 0)).ok
    · have h1 := stay_at (List.mem_range.mp hk)
      have h2 : atI (ss.map pairD) (k : Int) = some (pairD (stayAt ss k)) := at_map h1
      show Ev T K _ [.dat (.int (k : Int)), .dat (sD ss)] _
      walk_at "ev"
  · unfold order
    rw [keyAt_data]
def okS (ss : List (Int × Int)) : Prop := ∀ s ∈ ss, 0 ≤ s.1 ∧ s.1 < s.2 ∧ s.2 ≤ 1000000
theorem isStay_ok {s : Int × Int} (h : 0 ≤ s.1 ∧ s.1 < s.2 ∧ s.2 ≤ 1000000) : isStay (pairD s) = true := by
  simp [isStay, isTime, inR, ltD]
  omega
theorem eStays_ok {ss : List (Int × Int)} {lim : Int} {w : Str} (h : okS ss) (hl : (ss.length : Int) ≤ lim) : eStays (sD ss) lim w = none := by
  have e : (ss.map pairD).all isStay = true := by
    rw [List.all_eq_true]
    intro d hd
    obtain ⟨s, hs, rfl⟩ := List.mem_map.mp hd
    exact isStay_ok (h s hs)
  unfold eStays eList
  simp only [List.length_map]
  rw [if_neg (by omega), e]
  rfl
theorem eShared_ok {ss : List (Int × Int)} {n : Nat} {w : Str} (h : okS ss) (hl : ss.length ≤ 60) (hn : n ≤ 60) : eShared (sD ss) (.int (n : Int)) w = none := by
  unfold eShared
  rw [eStays_ok h (by omega)]
  unfold eRange
  have : inR (.int (n : Int)) 0 60 = true := by simp [inR]; omega
  rw [this]
  rfl
theorem loop_any {α : Type} {p : α → Bool} {d : D} : ∀ {l : List α}, loopM (fun (_ : Unit) a => if p a then LS.rt d else .go ()) l () = if l.any p then .rt d else .go ()
  | [] => rfl
  | a :: l => by
    cases h : p a with
    | true => simp [loopM, h]
    | false =>
      simp only [loopM, h, List.any_cons, Bool.false_or]
      exact loop_any
theorem ints_of {bs : List D} {lo hi : Int} (h : bs.all (fun b => inR b lo hi) = true) : bs = (intsOf bs).map .int := by
  induction bs with
  | nil => rfl
  | cons b bs ih =>
    rw [List.all_cons, Bool.and_eq_true] at h
    obtain ⟨n, rfl, _⟩ := inR_inv h.1
    unfold intsOf at ih ⊢
    rw [List.map_cons, List.map_cons, ← ih h.2]
def R__law_whole (ds : List D) (r : Res) : Prop := ∃ d, ds = [d] ∧ r = .ok (.bool (isInt d))
theorem w__law_whole : Walks T K N__law_whole (t__law_whole T K) R__law_whole := by
  rintro W ds r ⟨d, rfl, rfl⟩
  unfold t__law_whole
  refine ⟨.rt (.bool (isInt d)), xs_ret ?_, rfl⟩
  rw [← isC_int]
  walk_at "ev"
def R__law_holds (ds : List D) (r : Res) : Prop := ∃ (s : Int × Int) (m : Int), ds = [pairD s, .int m] ∧ r = .ok (.bool (hasM s m))
theorem w__law_holds : Walks T K N__law_holds (t__law_holds T K) R__law_holds := by
  rintro W ds r ⟨s, m, rfl, rfl⟩
  unfold t__law_holds
  refine ⟨.rt (.bool (hasM s m)), xs_ret ?_, rfl⟩
  walk_at "evd"
def R__law_load (ds : List D) (r : Res) : Prop := ∃ (ss : List (Int × Int)) (m : Int), ds = [sD ss, .int m] ∧ r = .ok (.int (loadL ss m)) ∧ ss.length ≤ 100000
theorem w__law_load : Walks T K N__law_load (t__law_load T K R__law_holds) R__law_load := by
  rintro W ds r ⟨ss, m, rfl, rfl, hz⟩
  unfold t__law_load
  refine ⟨.rt (.int (loadL ss m)), xs_ret ?_, rfl⟩
  apply EvV.is
  · refine ev_b1 (EvN.toL (evn_lc (l := ss) (e := pairD) (f := fun s => hasM s m) (g := pairD) (Ev.toL (ev_var rfl)) hz (by simp) (fun i s _ => ?_) fun i s _ _ => ?_)) ra_lenL
    · walk_at "et"
    · walk_at "ev"
  · unfold loadL
    rw [List.length_map]
def cellL (ns : List Int) (k : Nat) : Int := match ns[k]? with
  | some x => x
  | none => match ns with
    | x :: _ => x % 1000003 * 97 + 31 * (k : Int)
    | [] => 31 * (k : Int)
def absI (i : Int) : Int := if i < 0 then -i else i
def dig (lim : Int) (st : Int × List Int) : Int × List Int := (st.1 / lim, st.2 ++ [st.1 % lim])
def lcg (rest lim : Int) (st : Int × List Int) (k : Nat) : Int × List Int :=
  ((st.1 * 69621 + (k : Int) * 48271 + rest) % 2147483629, st.2 ++ [((st.1 * 69621 + (k : Int) * 48271 + rest) % 2147483629 / 7) % lim])
def rowL (cell : Int) (many : Nat) (lim : Int) : List Int :=
  if absI cell ≥ 10 ^ 18 then ((List.range many).foldl (fun st _ => dig lim st) (absI cell - 10 ^ 18, [])).2
  else ((List.range many).foldl (lcg (absI cell) lim) ((absI cell * 48271 + 11) % 2147483647, [])).2
theorem fold_inv {S α : Type} {f : S → α → S} {I : Nat → S → Prop} (hs : ∀ i s a, I i s → I (i + 1) (f s a)) : ∀ {l : List α} {s : S} {i : Nat}, I i s → I (i + l.length) (l.foldl f s)
  | [], s, i, h => h
  | a :: l, s, i, h => by
    have := fold_inv hs (l := l) (hs i s a h)
    rw [List.foldl_cons, List.length_cons]
    rw [show i + (l.length + 1) = i + 1 + l.length by omega]
    exact this
theorem rowL_ok {cell : Int} {many : Nat} {lim : Int} (h : 0 < lim) : (rowL cell many lim).length = many ∧ ∀ x ∈ rowL cell many lim, 0 ≤ x ∧ x < lim := by
  have key : ∀ (f : Int × List Int → Nat → Int × List Int) (s : Int), (∀ st k, ∃ y, (f st k).2 = st.2 ++ [y % lim]) → ((List.range many).foldl f (s, [])).2.length = many ∧ ∀ x ∈ ((List.range many).foldl f (s, [])).2, 0 ≤ x ∧ x < lim := by
    intro f s hf
    have := fold_inv (f := f) (I := fun i st => st.2.length = i ∧ ∀ x ∈ st.2, 0 ≤ x ∧ x < lim) (fun i st k ⟨h1, h2⟩ => by
      obtain ⟨y, e⟩ := hf st k
      rw [e]
      refine ⟨by rw [List.length_append, h1]; rfl, fun x hx => ?_⟩
      rcases List.mem_append.mp hx with hx | hx
      · exact h2 x hx
      · rw [List.mem_singleton.mp hx]
        exact ⟨Int.emod_nonneg _ (by omega), Int.emod_lt_of_pos _ h⟩) (l := List.range many) (s := (s, [])) (i := 0) ⟨rfl, fun x hx => by cases hx⟩
    rw [List.length_range, Nat.zero_add] at this
    exact this
  unfold rowL
  split
  · exact key _ _ fun st k => ⟨st.1, rfl⟩
  · exact key _ _ fun st k => ⟨_, rfl⟩
def wideOf (sh : Int) : Int := if sh = 1 then 40 else if sh = 2 then 1000000 else 8
def farOf (sh : Int) : Int := if sh = 1 then 25 else if sh = 2 then 1000000 else 6
def baseOf (sh : Int) : Int := if sh = 3 then 999990 else 0
def atD (xs : List Int) (k : Nat) : Int := (xs[k]?).getD 0
def mkStay (base : Int) (st ln : List Int) (k : Nat) : Int × Int := (base + atD st k, if base + atD st k + 1 + atD ln k < 1000000 then base + atD st k + 1 + atD ln k else 1000000)
def shapeL (ns : List Int) (a : Nat) : Int := atD (rowL (cellL ns a) 1 60) 0 % 4
def staysL (ns : List Int) (a many : Nat) : List (Int × Int) :=
  (List.range many).map (mkStay (baseOf (shapeL ns a)) (rowL (cellL ns (a + 1)) many (wideOf (shapeL ns a))) (rowL (cellL ns (a + 2)) many (farOf (shapeL ns a))))
theorem shape_in (ns : List Int) (a : Nat) : shapeL ns a = 0 ∨ shapeL ns a = 1 ∨ shapeL ns a = 2 ∨ shapeL ns a = 3 := by
  unfold shapeL
  omega
theorem wide_pos (sh : Int) : 0 < wideOf sh ∧ wideOf sh ≤ 1000000 := by
  unfold wideOf
  split
  · omega
  · split <;> omega
theorem far_pos (sh : Int) : 0 < farOf sh ∧ farOf sh ≤ 1000000 := by
  unfold farOf
  split
  · omega
  · split <;> omega
theorem atD_mem {xs : List Int} {k : Nat} (h : k < xs.length) : atD xs k ∈ xs := by
  unfold atD
  rw [List.getElem?_eq_getElem h]
  exact List.getElem_mem h
theorem at_D {xs : List Int} {k : Nat} (h : k < xs.length) : xs[k]? = some (atD xs k) := by
  unfold atD
  rw [List.getElem?_eq_getElem h]
  rfl
theorem staysL_len {ns : List Int} {a many : Nat} : (staysL ns a many).length = many := by
  unfold staysL
  rw [List.length_map, List.length_range]
theorem staysL_ok {ns : List Int} {a many : Nat} : okS (staysL ns a many) := by
  intro s hs
  unfold staysL at hs
  obtain ⟨k, hk, rfl⟩ := List.mem_map.mp hs
  have hk := List.mem_range.mp hk
  obtain ⟨l1, m1⟩ := rowL_ok (cell := cellL ns (a + 1)) (many := many) (wide_pos (shapeL ns a)).1
  obtain ⟨l2, m2⟩ := rowL_ok (cell := cellL ns (a + 2)) (many := many) (far_pos (shapeL ns a)).1
  have h1 := m1 _ (atD_mem (k := k) (by omega))
  have h2 := m2 _ (atD_mem (k := k) (by omega))
  have hb : 0 ≤ baseOf (shapeL ns a) ∧ baseOf (shapeL ns a) + wideOf (shapeL ns a) ≤ 1000000 := by
    rcases shape_in ns a with e | e | e | e <;> rw [e] <;> decide
  unfold mkStay
  dsimp only
  split <;> omega
def R__law_cell (ds : List D) (r : Res) : Prop := ∃ (ns : List Int) (k : Nat), ds = [scr ns, .int (k : Int)] ∧ r = .ok (.int (cellL ns k)) ∧ k ≤ 1000
theorem w__law_cell : Walks T K N__law_cell (t__law_cell T K) R__law_cell := by
  rintro W ds r ⟨ns, k, rfl, rfl, hk⟩
  unfold t__law_cell
  by_cases h : k < ns.length
  · have e := List.getElem?_eq_getElem h
    have a1 : atI ns (k : Int) = some ns[k] := atI_nat' e
    refine ⟨.rt (.int (cellL ns k)), xs_thenL ?_ trivial (xs_ret ?_), rfl⟩
    · walk_at "etd"
    · unfold cellL
      rw [e]
      walk_at "ev"
  · have e : ns[k]? = none := List.getElem?_eq_none (by omega)
    refine ⟨.rt (.int (cellL ns k)), xs_else ?_ ?_, rfl⟩
    · walk_at "etd"
    · unfold cellL
      rw [e]
      cases ns with
      | nil =>
        refine xs_else ?_ (xs_ret ?_)
        · walk_at "etd"
        · walk_at "ev"
      | cons x ns =>
        have a1 : atI (x :: ns) 0 = some x := atI_nat' (n := 0) rfl
        refine xs_thenL ?_ trivial (xs_ret ?_)
        · apply EvT.is
          · walk_at "et"
          · simp only [List.length_cons, decide_eq_true_eq]; omega
        · walk_at "ev"
def R__law_row (ds : List D) (r : Res) : Prop := ∃ (cell : Int) (many : Nat) (lim : Int), ds = [.int cell, .int (many : Int), .int lim] ∧ r = .new ((rowL cell many lim).map .int) ∧ many ≤ 1000 ∧ 0 < lim ∧ lim < 1073741824
theorem w__law_row : Walks T K N__law_row (t__law_row T K) R__law_row := by
  rintro W ds r ⟨cell, many, lim, rfl, rfl, hm, h0, h1⟩
  unfold t__law_row
  refine ⟨.rn ((rowL cell many lim).map .int), ?_, rfl⟩
  refine xs_seq (xs_asg (d := .int (absI cell)) (by walk_at "evd")) (xs_seq (xs_asgN (ds := []) (by walk_at "evn")) ?_)
  have p18 : CPow (10 : Int) (18 : Int) := ⟨by omega, by omega, by decide⟩
  have tst : EvT T K (tTest (tOp (XL.rGe) (tVar 3) (tOp (XL.rPow) (tC (.int 10)) (tC (.int 18))))) [.dat (.int cell), .dat (.int (many : Int)), .dat (.int lim), .dat (.int (absI cell)), .own [], .any, .any] (decide ((10 : Int) ^ 18 ≤ absI cell)) := by
    apply EvT.is
    · exact et_test (ev_op mono_pd (ev_var rfl) (ev_op mono_pd ev_int ev_int (rd_pow p18)) rd_ge)
    · rfl
  unfold rowL
  by_cases q : absI cell ≥ 10 ^ 18
  · rw [if_pos q]
    refine xs_thenL (tst.is (by simpa using q)) trivial ?_
    refine xs_seq (xs_asg (d := .int (absI cell - 10 ^ 18)) ?_) ?_
    · exact ev_op mono_pd (ev_var rfl) (ev_op mono_pd ev_int ev_int (rd_pow p18)) rd_sub
    · let r1 : Int × List Int → List Slot := fun st => [.dat (.int cell), .dat (.int (many : Int)), .dat (.int lim), .dat (.int st.1), .own (st.2.map .int), .any, .any]
      have e0 : lsOut r1 [] (loopM (fun st _ => LS.go (dig lim st)) (List.range many) (absI cell - 10 ^ 18, [])) = .nx (r1 ((List.range many).foldl (fun st _ => dig lim st) (absI cell - 10 ^ 18, []))) := by
        rw [loopM_fold fun _ _ _ => rfl]
        rfl
      refine xs_seq (XS.is (xs_forR (r := r1) (ρe := []) (s0 := (absI cell - 10 ^ 18, [])) (step := fun st _ => LS.go (dig lim st)) (n := many) (z := (many : Int)) (I := fun i st => st.2.length ≤ i) (by walk_at "ea") rfl (by omega) (by walk_at "wk") (by simp) fun i st hi hI => ?_) e0) (xs_retO rfl)
      refine ⟨.nx ((r1 (dig lim st)).set 5 (.dat (.int (i : Int)))), ?_, by show Wk _ _; walk_at "wk", fun s' e => ?_⟩
      · refine xs_seq ((xs_app rfl (d := .int (st.1 % lim)) (by walk_at "ev") (by simp; omega)).is rfl) ((xs_asg (d := .int (st.1 / lim)) (by walk_at "ev")).is ?_)
        simp [r1, dig]
      · cases e
        simp [dig]
        exact hI
  · rw [if_neg q]
    refine xs_else (tst.is (by simpa using q)) ?_
    refine xs_seq (xs_asg (d := .int ((absI cell * 48271 + 11) % 2147483647)) (by walk_at "ev")) ?_
    let r1 : Int × List Int → List Slot := fun st => [.dat (.int cell), .dat (.int (many : Int)), .dat (.int lim), .dat (.int (absI cell)), .own (st.2.map .int), .any, .dat (.int st.1)]
    have e0 : lsOut r1 [] (loopM (fun st k => LS.go (lcg (absI cell) lim st k)) (List.range many) ((absI cell * 48271 + 11) % 2147483647, [])) = .nx (r1 ((List.range many).foldl (lcg (absI cell) lim) ((absI cell * 48271 + 11) % 2147483647, []))) := by
      rw [loopM_fold fun _ _ _ => rfl]
      rfl
    refine xs_seq (XS.is (xs_forR (r := r1) (ρe := []) (s0 := ((absI cell * 48271 + 11) % 2147483647, [])) (step := fun st k => LS.go (lcg (absI cell) lim st k)) (n := many) (z := (many : Int)) (I := fun i st => st.2.length ≤ i) (by walk_at "ea") rfl (by omega) (by walk_at "wk") (by simp) fun i st hi hI => ?_) e0) (xs_retO rfl)
    refine ⟨.nx ((r1 (lcg (absI cell) lim st i)).set 5 (.dat (.int (i : Int)))), ?_, by show Wk _ _; walk_at "wk", fun s' e => ?_⟩
    · refine xs_seq (xs_asg (d := .int ((st.1 * 69621 + (i : Int) * 48271 + absI cell) % 2147483629)) (by walk_at "ev")) ((xs_app rfl (d := .int (((st.1 * 69621 + (i : Int) * 48271 + absI cell) % 2147483629 / 7) % lim)) (by walk_at "ev") (by simp; omega)).is ?_)
      simp [r1, lcg]
    · cases e
      simp [lcg]
      exact hI
def R__law_stays (ds : List D) (r : Res) : Prop := ∃ (ns : List Int) (a many : Nat), ds = [scr ns, .int (a : Int), .int (many : Int)] ∧ r = .new ((staysL ns a many).map pairD) ∧ a ≤ 100 ∧ many ≤ 1000
theorem w__law_stays : Walks T K N__law_stays (t__law_stays T K R__law_row R__law_cell) R__law_stays := by
  rintro W ds r ⟨ns, a, many, rfl, rfl, ha, hm⟩
  unfold t__law_stays
  refine ⟨.rn ((staysL ns a many).map pairD), ?_, rfl⟩
  have sh := shape_in ns a
  have f1 : atI ([8, 40, 1000000, 8].map PyData.int) (shapeL ns a) = some (.int (wideOf (shapeL ns a))) := by rcases sh with e | e | e | e <;> rw [e] <;> rfl
  have f2 : atI ([6, 25, 1000000, 6].map PyData.int) (shapeL ns a) = some (.int (farOf (shapeL ns a))) := by rcases sh with e | e | e | e <;> rw [e] <;> rfl
  have f3 : atI ([0, 0, 0, 999990].map PyData.int) (shapeL ns a) = some (.int (baseOf (shapeL ns a))) := by rcases sh with e | e | e | e <;> rw [e] <;> rfl
  have c1 : ∀ (ρ : List Slot) (k : Nat) (x : Int) (ta : TE), ρ[0]? = some (.dat (scr ns)) → Ev T K ta ρ (.int x) → x = (k : Int) → k ≤ 1000 → Ev T K (tCallS (SpX T K (He.ga K) R__law_cell) (WE W) (tCons (tVar 0) (tCons ta (tNil)))) ρ (.int (cellL ns k)) := fun ρ k x ta h0 h1 e hk =>
    ev_callS (ds := [scr ns, .int (k : Int)]) (ea_cons (ev_var h0) (ea_cons (e ▸ h1) ea_nil)) ⟨_, _, rfl, rfl, hk⟩
  have s1 : XS T K (He.ga K) W (tAsg (tOp (XL.rMod) (tCB (XL.rInt) (tCons (tOp (rIx K) (tCallS (SpX T K (He.ga K) R__law_row) (WE W) (tCons (tCallS (SpX T K (He.ga K) R__law_cell) (WE W) (tCons (tVar 0) (tCons (tVar 1) (tNil)))) (tCons (tC (.int 1)) (tCons (tC (.int 60)) (tNil))))) (tC (.int 0))) (tNil))) (tC (.int 4))) (gName 3)) (st0 N__law_stays [scr ns, .int (a : Int), .int (many : Int)]) (.nx [.dat (scr ns), .dat (.int (a : Int)), .dat (.int (many : Int)), .dat (.int (shapeL ns a)), .any, .any, .any, .any, .any, .any]) := by
    refine (xs_asg (d := .int (shapeL ns a)) ?_).is rfl
    have hr : Ev T K (tOp (rIx K) (tCallS (SpX T K (He.ga K) R__law_row) (WE W) (tCons (tCallS (SpX T K (He.ga K) R__law_cell) (WE W) (tCons (tVar 0) (tCons (tVar 1) (tNil)))) (tCons (tC (.int 1)) (tCons (tC (.int 60)) (tNil))))) (tC (.int 0))) (st0 N__law_stays [scr ns, .int (a : Int), .int (many : Int)]) (.int (atD (rowL (cellL ns a) 1 60) 0)) := by
      refine ev_op mono_pl (EvN.toL (evn_callS (ds := [.int (cellL ns a), .int ((1 : Nat) : Int), .int 60]) (ea_cons (c1 _ a _ _ rfl (ev_var rfl) rfl (by omega)) (ea_cons ev_int (ea_cons ev_int ea_nil))) ⟨_, _, _, rfl, rfl, by omega, by omega, by omega⟩)) ev_int (rd_ixL (at_map (f := PyData.int) (i := 0) (at_D ?_)))
      rw [(rowL_ok (by omega)).1]
      omega
    exact ev_op mono_pd (ev_b1 hr ra_int) ev_int (rd_mod (by omega))
  refine xs_seq s1 ?_
  refine xs_seq (xs_asg (d := .int (wideOf (shapeL ns a))) (ev_op mono_pl (EvN.toL (evn_lst (ds := [8, 40, 1000000, 8].map PyData.int) (by walk_at "ea") (by simp))) (ev_var rfl) (rd_ixL f1))) ?_
  refine xs_seq (xs_asg (d := .int (farOf (shapeL ns a))) (ev_op mono_pl (EvN.toL (evn_lst (ds := [6, 25, 1000000, 6].map PyData.int) (by walk_at "ea") (by simp))) (ev_var rfl) (rd_ixL f2))) ?_
  refine xs_seq (xs_asg (d := .int (baseOf (shapeL ns a))) (ev_op mono_pl (EvN.toL (evn_lst (ds := [0, 0, 0, 999990].map PyData.int) (by walk_at "ea") (by simp))) (ev_var rfl) (rd_ixL f3))) ?_
  have w1 := wide_pos (shapeL ns a)
  have w2 := far_pos (shapeL ns a)
  refine xs_seq (xs_asg (d := .list ((rowL (cellL ns (a + 1)) many (wideOf (shapeL ns a))).map .int)) (EvN.toD (evn_callS (ds := [.int (cellL ns (a + 1)), .int (many : Int), .int (wideOf (shapeL ns a))]) (ea_cons (c1 _ (a + 1) ((a : Int) + 1) _ rfl (by walk_at "ev") (by omega) (by omega)) (ea_cons (ev_var rfl) (ea_cons (ev_var rfl) ea_nil))) ⟨_, _, _, rfl, rfl, hm, w1.1, by omega⟩))) ?_
  refine xs_seq (xs_asg (d := .list ((rowL (cellL ns (a + 2)) many (farOf (shapeL ns a))).map .int)) (EvN.toD (evn_callS (ds := [.int (cellL ns (a + 2)), .int (many : Int), .int (farOf (shapeL ns a))]) (ea_cons (c1 _ (a + 2) ((a : Int) + 2) _ rfl (by walk_at "ev") (by omega) (by omega)) (ea_cons (ev_var rfl) (ea_cons (ev_var rfl) ea_nil))) ⟨_, _, _, rfl, rfl, hm, w2.1, by omega⟩))) ?_
  refine xs_retN (EvN.is (evn_lcRA (n := many) (g := fun k => pairD (mkStay (baseOf (shapeL ns a)) (rowL (cellL ns (a + 1)) many (wideOf (shapeL ns a))) (rowL (cellL ns (a + 2)) many (farOf (shapeL ns a))) k)) (by walk_at "ea") rfl (by omega) (by simp) fun k hk => ?_) ?_)
  · have a1 : atI ((rowL (cellL ns (a + 1)) many (wideOf (shapeL ns a))).map PyData.int) (k : Int) = some (.int (atD (rowL (cellL ns (a + 1)) many (wideOf (shapeL ns a))) k)) := at_map (at_D (by rw [(rowL_ok w1.1).1]; exact hk))
    have a2 : atI ((rowL (cellL ns (a + 2)) many (farOf (shapeL ns a))).map PyData.int) (k : Int) = some (.int (atD (rowL (cellL ns (a + 2)) many (farOf (shapeL ns a))) k)) := at_map (at_D (by rw [(rowL_ok w2.1).1]; exact hk))
    walk_at "evd"
  · unfold staysL
    rw [List.map_map]
    rfl
theorem sort_order (ss : List (Int × Int)) : sortP ((List.range ss.length).map (keyAt ss)) = (order ss).map (keyAt ss) := by
  unfold sortP order
  rw [List.map_mergeSort (r := fun a b => leP (keyAt ss a) (keyAt ss b)) (s := leP) (f := keyAt ss) (l := List.range ss.length) fun a _ b _ => rfl]
theorem nodup_le {α : Type} [DecidableEq α] : ∀ {l m : List α}, l.Nodup → (∀ x ∈ l, x ∈ m) → l.length ≤ m.length
  | [], m, _, _ => Nat.zero_le _
  | a :: l, m, hn, hs => by
    have ha : a ∈ m := hs a List.mem_cons_self
    have h1 : l.length ≤ (m.erase a).length := nodup_le (List.nodup_cons.mp hn).2 fun x hx => by
      have hne : x ≠ a := fun z => (List.nodup_cons.mp hn).1 (z ▸ hx)
      exact (List.mem_erase_of_ne hne).mpr (hs x (List.mem_cons_of_mem _ hx))
    rw [List.length_erase_of_mem ha] at h1
    have := List.length_pos_of_mem ha
    rw [List.length_cons]
    omega
theorem loopM_inv {S α : Type} {step : S → α → LS S} {I : List α → S → Prop} : ∀ {l pre : List α} {s : S}, I pre s → (∀ p a q s, pre ++ l = p ++ a :: q → I p s → ∀ s', step s a = .go s' → I (p ++ [a]) s') →
    (∀ s', loopM step l s = .go s' → I (pre ++ l) s') ∧ ∀ d, loopM step l s = .rt d → ∃ p a q s1, pre ++ l = p ++ a :: q ∧ I p s1 ∧ step s1 a = .rt d
  | [], pre, s, h, _ => ⟨fun s' e => by cases e; rw [List.append_nil]; exact h, fun d e => by cases e⟩
  | a :: l, pre, s, h, hs => by
    cases q : step s a with
    | go s1 =>
      have h1 := hs pre a l s rfl h s1 q
      have e : pre ++ a :: l = (pre ++ [a]) ++ l := by simp
      have ih := loopM_inv (l := l) (pre := pre ++ [a]) (s := s1) h1 (fun p b r s2 e2 => hs p b r s2 (by rw [e]; exact e2))
      simp only [loopM, q]
      rw [e]
      exact ih
    | br s1 => simp [loopM, q]
    | rt d =>
      refine ⟨fun s' e => by simp [loopM, q] at e, fun d' e => ?_⟩
      simp [loopM, q] at e
      subst e
      exact ⟨pre, a, l, s, rfl, h, q⟩
    | rn d => simp [loopM, q]
    | ex c fs => simp [loopM, q]
theorem order_nodup (ss : List (Int × Int)) : (order ss).Nodup := (List.mergeSort_perm _ _).nodup_iff.mpr List.nodup_range
theorem order_sorted (ss : List (Int × Int)) : (order ss).Pairwise fun a b => leP (keyAt ss a) (keyAt ss b) = true :=
  List.pairwise_mergeSort (le := fun a b => leP (keyAt ss a) (keyAt ss b)) (fun a b c h1 h2 => leP_trans _ _ _ h1 h2) (fun a b => leP_total _ _) _
theorem load_ix (ss : List (Int × Int)) (m : Int) : loadL ss m = (((List.range ss.length).filter fun k => hasM (stayAt ss k) m).length : Int) := by
  unfold loadL
  have e : ss = (List.range ss.length).map (stayAt ss) := by
    apply List.ext_getElem
    · simp
    · intro i h1 h2
      rw [List.getElem_map, List.getElem_range]
      have := stay_at h1
      rw [List.getElem?_eq_getElem h1] at this
      exact Option.some.inj this
  conv => lhs; rw [e]
  rw [List.filter_map, List.length_map]
  rfl
def topL (ss : List (Int × Int)) : Int := maxL (0 :: ss.map fun s => loadL ss s.1)
theorem load_le {ss : List (Int × Int)} {m : Int} : 0 ≤ loadL ss m ∧ loadL ss m ≤ ss.length := by
  unfold loadL
  have := List.length_filter_le (fun s => hasM s m) ss
  omega
theorem top_le {ss : List (Int × Int)} : 0 ≤ topL ss ∧ topL ss ≤ ss.length := by
  refine ⟨maxL_le (by simp), ?_⟩
  have h := maxL_mem (xs := 0 :: ss.map fun s => loadL ss s.1) (by simp)
  rcases List.mem_cons.mp h with h | h
  · unfold topL; rw [h]; omega
  · obtain ⟨s, _, e⟩ := List.mem_map.mp h
    unfold topL; rw [← e]
    exact load_le.2
theorem top_ge {ss : List (Int × Int)} {s : Int × Int} (h : s ∈ ss) : loadL ss s.1 ≤ topL ss := maxL_le (List.mem_cons_of_mem _ (List.mem_map.mpr ⟨s, h, rfl⟩))
theorem cut_take {α : Type} {xs : List α} {k : Nat} : cut xs none (some (k : Int)) = xs.take k := by
  unfold cut
  rw [HT.sIx_none, HT.sIx_nat]
  simp [List.take_eq_take_min (i := k)]
theorem cut_drop {α : Type} {xs : List α} {k : Nat} : cut xs (some (k : Int)) none = xs.drop k := by
  unfold cut
  rw [HT.sIx_none, HT.sIx_nat, List.take_of_length_le (by rw [List.length_drop]; omega)]
  by_cases h : k ≤ xs.length
  · rw [Nat.min_eq_left h]
  · rw [Nat.min_eq_right (by omega), List.drop_of_length_le (Nat.le_refl _), List.drop_of_length_le (by omega)]
def badsL : List D := [.tuple [.int 3, .int 3], .tuple [.int 4, .int 2], .list [.int 0, .int 1], .tuple [.int 0, .bool true], .tuple [.int (-1), .int 2], .tuple [.int 0, .int 1000001], .none, .tuple [.int 0, .int 1, .int 2]]
def badItem (w : Int) : D := (badsL[w.toNat]?).getD .none
theorem bads_no : ∀ b ∈ badsL, isStay b = false := by decide +kernel
theorem badItem_mem {w : Int} (h0 : 0 ≤ w) (h8 : w < 8) : badItem w ∈ badsL ∧ atI badsL w = some (badItem w) := by
  obtain ⟨k, rfl⟩ := Int.eq_ofNat_of_zero_le h0
  have hk : k < badsL.length := by simp [badsL]; omega
  have e : badsL[k]? = some (badItem (k : Int)) := by
    unfold badItem
    rw [Int.toNat_natCast, List.getElem?_eq_getElem hk]
    rfl
  exact ⟨List.mem_of_getElem? e, atI_nat' e⟩
def spotOf (ss : List (Int × Int)) (num : Int) : Nat := (num % (((ss.map pairD).take 59).length + 1 : Int)).toNat
def badS (ss : List (Int × Int)) (way num : Int) : D := if way = 0 then .tuple (ss.map pairD) else if way = 1 then .list (List.replicate 61 .none)
  else .list (((ss.map pairD).take 59).take (spotOf ss num) ++ [badItem (way % 8)] ++ ((ss.map pairD).take 59).drop (spotOf ss num))
def badDue (way : Int) : D := if way = 1 then .tuple [.str "TooMany", .int 60] else .tuple [.str "BadValue", .str "stays"]
abbrev ErP := Str × List (Str × D)
abbrev badP (x : Str) : ErP := ⟨"BadValue", [⟨"what", .str x⟩]⟩
abbrev manyP (n : Int) : ErP := ⟨"TooMany", [⟨"limit", .int n⟩]⟩
def tagE (p : ErP) : D := match p.2 with
  | [(_, v)] => .tuple [.str p.1, v]
  | _ => .none
theorem badS_err (ss : List (Int × Int)) (way num : Int) : ∃ p, eStays (badS ss way num) 60 "stays" = some p ∧ tagE p = badDue way := by
  unfold badS badDue
  by_cases h0 : way = 0
  · rw [if_pos h0, if_neg (by omega)]
    exact ⟨badP "stays", rfl, rfl⟩
  · rw [if_neg h0]
    by_cases h1 : way = 1
    · rw [if_pos h1, if_pos h1]
      refine ⟨manyP 60, ?_, rfl⟩
      unfold eStays eList
      simp only [List.length_replicate]
      rfl
    · rw [if_neg h1, if_neg h1]
      refine ⟨badP "stays", ?_, rfl⟩
      have hb := bads_no _ (badItem_mem (w := way % 8) (by omega) (by omega)).1
      have hlen : (((ss.map pairD).take 59).take (spotOf ss num) ++ [badItem (way % 8)] ++ ((ss.map pairD).take 59).drop (spotOf ss num)).length ≤ 60 := by
        have e : ((ss.map pairD).take 59).length ≤ 59 := by rw [List.length_take]; omega
        rw [List.length_append, List.length_append, List.length_take, List.length_drop, List.length_singleton]
        omega
      have hall : (((ss.map pairD).take 59).take (spotOf ss num) ++ [badItem (way % 8)] ++ ((ss.map pairD).take 59).drop (spotOf ss num)).all isStay = false := by
        simp [List.all_append, hb]
      unfold eStays eList
      dsimp only
      rw [if_neg (by omega), hall]
      rfl
theorem badS_dict (ss : List (Int × Int)) (way num : Int) : isDict (badS ss way num) = false := by
  unfold badS
  split
  · rfl
  · split <;> rfl
theorem er_form {d c : D} {w : Str} {p : ErP} (h : eShared d c w = some p) : (∃ x, p = badP x) ∨ ∃ n, p = manyP n := by
  have k1 : ∀ {d : D} {lim : Int} {w : Str} {p : ErP}, eList d lim w = some p → (∃ x, p = badP x) ∨ ∃ n, p = manyP n := fun {d lim w p} h => by
    unfold eList at h
    split at h
    · split at h
      · cases h; exact .inr ⟨_, rfl⟩
      · cases h
    · cases h; exact .inl ⟨_, rfl⟩
  unfold eShared eStays at h
  cases q : eList d 60 w with
  | some p1 =>
    rw [q] at h
    cases h
    exact k1 q
  | none =>
    rw [q] at h
    dsimp only [Er.andThen] at h
    have k2 : ∀ {c : D} {p : ErP}, eRange c 0 60 "count" = some p → (∃ x, p = badP x) := fun {c p} h => by
      unfold eRange at h
      split at h
      · cases h
      · cases h; exact ⟨_, rfl⟩
    split at h
    · exact .inl (k2 h)
    · rename_i z hz
      cases h
      split at hz
      · split at hz
        · cases hz
        · cases hz; exact .inl ⟨_, rfl⟩
      · cases hz
theorem eShared_of {d c : D} {w : Str} {p : ErP} (h : eStays d 60 w = some p) : eShared d c w = some p := by
  unfold eShared
  rw [h]
  rfl
theorem stays_form {d : D} {w : Str} {p : ErP} (h : eStays d 60 w = some p) : (∃ x, p = badP x) ∨ ∃ n, p = manyP n := er_form (c := .none) (eShared_of h)
def R__law_bad_stays (ds : List D) (r : Res) : Prop := ∃ (ss : List (Int × Int)) (way num : Int), ds = [sD ss, .int way, .int num] ∧ r = .ok (.tuple [badS ss way num, badDue way]) ∧ ss.length ≤ 1000 ∧ 0 ≤ way ∧ 0 ≤ num
theorem w__law_bad_stays : Walks T K N__law_bad_stays (t__law_bad_stays T K) R__law_bad_stays := by
  rintro W ds r ⟨ss, way, num, rfl, rfl, hz, h0, hn⟩
  unfold t__law_bad_stays
  refine ⟨.rt (.tuple [badS ss way num, badDue way]), ?_, rfl⟩
  unfold badS badDue
  by_cases w0 : way = 0
  · subst w0
    rw [if_pos rfl, if_neg (by decide)]
    refine xs_thenL ?_ trivial (xs_ret ?_)
    · walk_at "etd"
    · walk_at "ev"
  · rw [if_neg w0]
    refine xs_else ?_ ?_
    · apply EvT.is
      · walk_at "et"
      · rw [eqv_ii]; simpa using w0
    · by_cases w1 : way = 1
      · subst w1
        rw [if_pos rfl, if_pos rfl]
        refine xs_thenL ?_ trivial (xs_ret ?_)
        · walk_at "etd"
        · refine ev_tup (ea_cons (EvN.toD ?_) (ea_cons (by walk_at "ev") ea_nil)) (by simp)
          exact (evn_op mono_pl (P1 := pl K [.none]) (P2 := pd K (.int 61)) (by walk_at "ev") ev_int (rdn_rep (by omega) (by omega) (by decide))).is (by rw [rep_one]; rfl)
      · rw [if_neg w1, if_neg w1]
        refine xs_else ?_ ?_
        · apply EvT.is
          · walk_at "et"
          · rw [eqv_ii]; simpa using w1
        · have hm := Int.emod_nonneg num (b := (((ss.map pairD).take 59).length + 1 : Int)) (by omega)
          have hm2 := Int.emod_lt_of_pos num (b := (((ss.map pairD).take 59).length + 1 : Int)) (by omega)
          have hsp : ((spotOf ss num : Nat) : Int) = num % (((ss.map pairD).take 59).length + 1 : Int) := by
            unfold spotOf
            exact Int.toNat_of_nonneg hm
          have bi := (badItem_mem (w := way % 8) (by omega) (by omega)).2
          refine xs_seq (xs_asg (d := .list ((ss.map pairD).take 59)) ?_) ?_
          · apply EvN.toD
            apply EvN.is
            · exact evn_sl (Ev.toL (ev_var rfl)) eo_none (eo_some (n := ((59 : Nat) : Int)) ev_int)
            · exact cut_take
          · refine xs_seq (xs_asg (d := .int (spotOf ss num : Nat)) ?_) (xs_seq (xs_asg (d := badItem (way % 8)) ?_) (xs_ret ?_))
            · rw [hsp]
              exact ev_op mono_pd (ev_b1 (ev_var rfl) ra_int) (ev_op mono_pd (ev_b1 (ev_var rfl) (RA1.l ra_lenL)) ev_int rd_add) (rd_mod (by omega))
            · refine ev_op mono_pl (EvN.toL (evn_lst (ds := badsL) ?_ (by simp [badsL]))) (ev_op mono_pd (ev_b1 (ev_var rfl) ra_int) ev_int (rd_mod (by omega))) (rd_ixL bi)
              unfold badsL
              walk_at "ea"
            · have hl : ((ss.map pairD).take 59).length ≤ 59 := by rw [List.length_take]; omega
              refine ev_tup (ea_cons (EvN.toD (evn_op mono_pl (EvN.toL (evn_op mono_pl (EvN.toL ?_) (EvN.toL (evn_lst (ds := [badItem (way % 8)]) (by walk_at "ea") (by simp))) (rdn_cat ?_))) (EvN.toL ?_) (rdn_cat ?_))) (ea_cons (by walk_at "ev") ea_nil)) (by simp)
              · apply EvN.is
                · exact evn_sl (Ev.toL (ev_var rfl)) eo_none (eo_some (ev_var rfl))
                · exact cut_take
              · rw [List.length_take, List.length_singleton]; omega
              · apply EvN.is
                · exact evn_sl (Ev.toL (ev_var rfl)) (eo_some (ev_var rfl)) eo_none
                · exact cut_drop
              · rw [List.length_append, List.length_take, List.length_singleton, List.length_drop]; omega
def sayW : List (Str × Str × Str) := [("BadValue", "what", "BadValue"), ("TooMany", "limit", "TooMany")]
def spoilL : List D := [.int (-1), .int 61, .bool true, .none, .str "3", .list [.int 3]]
def spoilC (w : Int) : D := (spoilL[w.toNat]?).getD .none
theorem spoil_no : ∀ b ∈ spoilL, inR b 0 60 = false := by decide +kernel
theorem spoilC_mem {w : Int} (h0 : 0 ≤ w) (h8 : w < 6) : spoilC w ∈ spoilL ∧ atI spoilL w = some (spoilC w) := by
  obtain ⟨k, rfl⟩ := Int.eq_ofNat_of_zero_le h0
  have hk : k < spoilL.length := by simp [spoilL]; omega
  have e : spoilL[k]? = some (spoilC (k : Int)) := by
    unfold spoilC
    rw [Int.toNat_natCast, List.getElem?_eq_getElem hk]
    rfl
  exact ⟨List.mem_of_getElem? e, atI_nat' e⟩
theorem ints_at {xs : List Int} {k n : Nat} (hn : xs.length = n) (h : k < n) : atI (xs.map PyData.int) (k : Int) = some (.int (atD xs k)) := at_map (at_D (by omega))
theorem tag_shp {p : ErP} (h : (∃ x, p = badP x ∧ PyData.strOk x = true) ∨ ∃ n, p = manyP n) : Shp 1 (tagE p) := by
  rcases h with ⟨x, rfl, hx⟩ | ⟨n, rfl⟩
  · refine shp_tuple fun d hd => ?_
    simp [tagE] at hd
    rcases hd with rfl | rfl
    · exact shp_str (by decide +kernel)
    · exact shp_str hx
  · refine shp_tuple fun d hd => ?_
    simp [tagE] at hd
    rcases hd with rfl | rfl
    · exact shp_str (by decide +kernel)
    · exact shp_int
theorem due_shp (way : Int) : Shp 1 (badDue way) := by
  unfold badDue
  split
  · exact tag_shp (p := manyP 60) (.inr ⟨_, rfl⟩)
  · exact tag_shp (p := badP "stays") (.inl ⟨_, rfl, by decide +kernel⟩)
def cntD (c : Int) (nums : List Int) : D := if atD nums 0 % 2 = 0 then spoilC (atD nums 1 % 6) else .int c
def due1 (nums : List Int) : D := if atD nums 0 % 2 = 0 then .tuple [.str "BadValue", .str "count"] else .none
def stD (ss : List (Int × Int)) (nums : List Int) : D := if atD nums 2 % 2 = 0 then badS ss (atD nums 3 % 11) (atD nums 4) else sD ss
def due2 (nums : List Int) : D := if atD nums 2 % 2 = 0 then badDue (atD nums 3 % 11) else due1 nums
end
end K25
namespace K25
open PySem L2 XL
/-! ### ascending lists -/
def stepA (lo hi : Int) (last : Int) (d : D) : LS Int := match d with
  | .int n => if (!(decide (lo ≤ n) && decide (n ≤ hi))) || decide (n ≤ last) then .rt (.bool false) else .go n
  | _ => .rt (.bool false)
def ascM (bs : List D) (lo hi : Int) : Bool := match loopM (stepA lo hi) bs (lo - 1) with
  | .go _ => true
  | _ => false
def ascB (d : D) (lo hi : Int) : Bool := match d with
  | .list bs => ascM bs lo hi
  | _ => false
theorem stepA_or {lo hi last : Int} {d : D} : (∃ n, d = .int n ∧ stepA lo hi last d = .go n ∧ lo ≤ n ∧ n ≤ hi ∧ last < n) ∨ stepA lo hi last d = .rt (.bool false) := by
  cases d with
  | int n =>
    unfold stepA
    dsimp only
    by_cases h : ((!(decide (lo ≤ n) && decide (n ≤ hi))) || decide (n ≤ last)) = true
    · rw [if_pos h]; exact .inr rfl
    · rw [if_neg h]
      simp at h
      exact .inl ⟨n, rfl, rfl, by omega⟩
  | _ => exact .inr rfl
theorem loopA_or {lo hi : Int} : ∀ {bs : List D} {last : Int}, (∃ n, loopM (stepA lo hi) bs last = .go n) ∨ loopM (stepA lo hi) bs last = .rt (.bool false)
  | [], last => .inl ⟨last, rfl⟩
  | b :: bs, last => by
    rcases stepA_or (lo := lo) (hi := hi) (last := last) (d := b) with ⟨n, _, e, _⟩ | e
    · simp only [loopM, e]
      exact loopA_or
    · exact .inr (by simp [loopM, e])
/-- what such a list is -/
theorem loopA_ints {lo hi : Int} : ∀ {bs : List D} {last m : Int}, loopM (stepA lo hi) bs last = .go m → bs = (intsOf bs).map .int ∧ (∀ x ∈ intsOf bs, lo ≤ x ∧ x ≤ hi ∧ last < x) ∧ (intsOf bs).Pairwise (· < ·)
  | [], last, m, _ => ⟨rfl, fun x h => (by cases h), List.Pairwise.nil⟩
  | b :: bs, last, m, h => by
    rcases stepA_or (lo := lo) (hi := hi) (last := last) (d := b) with ⟨n, rfl, e, h1, h2, h3⟩ | e
    · simp only [loopM, e] at h
      obtain ⟨i1, i2, i3⟩ := loopA_ints h
      refine ⟨?_, fun x hx => ?_, ?_⟩
      · show _ = PyData.int n :: (intsOf bs).map .int
        rw [← i1]
      · rcases List.mem_cons.mp (show x ∈ n :: intsOf bs from hx) with rfl | hx
        · exact ⟨h1, h2, h3⟩
        · have := i2 x hx; omega
      · exact List.pairwise_cons.mpr ⟨fun x hx => (i2 x hx).2.2, i3⟩
    · simp [loopM, e] at h
theorem asc_ints {bs : List D} {lo hi : Int} (h : ascM bs lo hi = true) : bs = (intsOf bs).map .int ∧ (∀ x ∈ intsOf bs, lo ≤ x ∧ x ≤ hi) ∧ (intsOf bs).Pairwise (· < ·) := by
  unfold ascM at h
  rcases loopA_or (lo := lo) (hi := hi) (bs := bs) (last := lo - 1) with ⟨n, e⟩ | e
  · obtain ⟨a, b, c⟩ := loopA_ints e
    exact ⟨a, fun x hx => ⟨(b x hx).1, (b x hx).2.1⟩, c⟩
  · rw [e] at h
    cases h
/-! ### bookings -/
def keyE (ss : List (Int × Int)) (k : Nat) : Int × Int := ((stayAt ss k).2, (k : Int))
def presL (ss : List (Int × Int)) (m : Int) (ms : List Nat) : List Nat := ms.filter fun k => hasM (stayAt ss k) m
def maxPL : List (Int × Int) → Int × Int
  | [] => (0, 0)
  | p :: ps => maxP p ps
def worst (ss : List (Int × Int)) (pr : List Nat) : Nat := (maxPL (pr.map (keyE ss))).2.toNat
def stepB (ss : List (Int × Int)) (c : Nat) (ms : List Nat) (k : Nat) : List Nat :=
  if (presL ss (stayAt ss k).1 (ms ++ [k])).length > c then (ms ++ [k]).erase (worst ss (presL ss (stayAt ss k).1 (ms ++ [k]))) else ms ++ [k]
def bookM (ss : List (Int × Int)) (c : Nat) : List Nat := (order ss).foldl (stepB ss c) []
def natD (ms : List Nat) : List D := ms.map fun k : Nat => .int (k : Int)
def castI (ms : List Nat) : List Int := ms.map fun k : Nat => (k : Int)
def bookI (ss : List (Int × Int)) (c : Nat) : List Int := sortI (castI (bookM ss c))
def accB (ss : List (Int × Int)) (c : Nat) (ms : List Int) : Bool := ms.all fun k => decide ((ms.filter fun j => hasM (stayAt ss j.toNat) (stayAt ss k.toNat).1).length ≤ c)
def isAcc (ss : List (Int × Int)) (c : Nat) (d : D) : Bool := match d with
  | .list bs => ascM bs 0 (ss.length - 1) && accB ss c (intsOf bs)
  | _ => false
theorem worst_spec {ss : List (Int × Int)} {pr : List Nat} (h : 0 < pr.length) : worst ss pr ∈ pr ∧ ∀ b ∈ pr, leP (keyE ss b) (keyE ss (worst ss pr)) = true := by
  cases pr with
  | nil => cases h
  | cons p ps =>
    have h1 := maxP_mem (p := keyE ss p) (ps := ps.map (keyE ss))
    have h2 := maxP_ge (p := keyE ss p) (ps := ps.map (keyE ss))
    have h1' : maxP (keyE ss p) (ps.map (keyE ss)) ∈ (p :: ps).map (keyE ss) := h1
    obtain ⟨a, ha, e⟩ := List.mem_map.mp h1'
    have ew : worst ss (p :: ps) = a := by
      unfold worst
      show (maxP (keyE ss p) (ps.map (keyE ss))).2.toNat = a
      rw [← e]
      simp [keyE]
    rw [ew, e]
    refine ⟨ha, fun b hb => ?_⟩
    rcases List.mem_cons.mp hb with rfl | hb
    · exact h2.1
    · exact h2.2 _ (List.mem_map.mpr ⟨b, hb, rfl⟩)
theorem worst_best {ss : List (Int × Int)} {pr : List Nat} (h : 0 < pr.length) : bestBy (keyE ss) pr = some (worst ss pr) := by
  obtain ⟨a, e, ha, hle⟩ := bestBy_spec (key := keyE ss) h
  obtain ⟨hw, hle2⟩ := worst_spec (ss := ss) h
  have := leP_anti (hle _ hw) (hle2 _ ha)
  have e2 : worst ss pr = a := by
    have := congrArg Prod.snd this
    simp only [keyE] at this
    omega
  rw [e, e2]
theorem castI_erase (ms : List Nat) (k : Nat) : (castI ms).erase (k : Int) = castI (ms.erase k) := by
  induction ms with
  | nil => rfl
  | cons a ms ih =>
    by_cases h : a = k
    · subst h
      simp [castI]
    · have h' : ((a : Int) == (k : Int)) = false := by simp; omega
      rw [List.erase_cons_tail (by simpa using h)]
      show (((a : Int)) :: castI ms).erase (k : Int) = (a : Int) :: castI (ms.erase k)
      rw [List.erase_cons_tail (by simp; omega), ih]
theorem natD_cast (ms : List Nat) : natD ms = (castI ms).map .int := by
  unfold natD castI
  rw [List.map_map]
  rfl
theorem stepB_len {ss : List (Int × Int)} {c : Nat} {ms : List Nat} {k : Nat} : (stepB ss c ms k).length ≤ ms.length + 1 := by
  unfold stepB
  split
  · exact Nat.le_trans List.length_erase_le (by simp)
  · simp
theorem stepB_mem {ss : List (Int × Int)} {c : Nat} {ms : List Nat} {k x : Nat} (h : x ∈ stepB ss c ms k) : x ∈ ms ∨ x = k := by
  unfold stepB at h
  split at h
  · have := List.mem_of_mem_erase h
    simpa using this
  · simpa using h
section
variable {T : Tbs} {K : PySem.W.Frag}
def R_is_ascending (ds : List D) (r : Res) : Prop := ∃ d lo hi, ds = [d, .int lo, .int hi] ∧ r = .ok (.bool (ascB d lo hi)) ∧ isDict d = false
theorem w_is_ascending : Walks T K N_is_ascending (t_is_ascending T K R_in_range) R_is_ascending := by
  rintro W ds r ⟨d, lo, hi, rfl, rfl, hd⟩
  unfold t_is_ascending
  refine ⟨.rt (.bool (ascB d lo hi)), ?_, rfl⟩
  cases d with
  | dict kv => cases hd
  | list bs =>
    refine xs_else ?_ (xs_seq (xs_asg (d := .int (lo - 1)) (by walk_at "ev")) ?_)
    · walk_at "etd"
    · let r1 : Int → List Slot := fun l => [.dat (.list bs), .dat (.int lo), .dat (.int hi), .dat (.int l), .any]
      have key := xs_for (T := T) (K := K) (cl := He.ga K) (W := W) (ρ := r1 (lo - 1)) (ρe := []) (r := r1) (s0 := lo - 1) (step := stepA lo hi) (I := fun _ _ => True) (j := 4) (l := bs) (e := fun x : D => x) (tl := tVar 0)
        (tu := tSeq (tIfS (tOr (tNot (tB (tCallS (SpX T K (He.ga K) R_in_range) (WE W) (tCons (tVar 4) (tCons (tVar 1) (tCons (tVar 2) (tNil))))))) (tTest (tOp (XL.rLe) (tVar 4) (tVar 3)))) (tRet (tC (.bl false))) (tNext)) (tAsg (tVar 4) (gName 3))) ?_ (by walk_at "wk") trivial fun i l x hx _ => ?_
      · unfold ascB ascM
        dsimp only
        rcases loopA_or (lo := lo) (hi := hi) (bs := bs) (last := lo - 1) with ⟨n, e⟩ | e
        · rw [e] at key ⊢
          exact xs_seq key (xs_ret ev_bl)
        · rw [e] at key ⊢
          exact xs_leave key trivial
      · apply EvV.is
        · walk_at "ev"
        · simp
      · have t1 : EvT T K (tNot (tB (tCallS (SpX T K (He.ga K) R_in_range) (WE W) (tCons (tVar 4) (tCons (tVar 1) (tCons (tVar 2) (tNil))))))) ((r1 l).set 4 (.dat x)) (!inR x lo hi) := by walk_at "et"
        cases q : inR x lo hi with
        | false =>
          rw [q] at t1
          have e : stepA lo hi l x = .rt (.bool false) := by
            cases x with
            | int n =>
              unfold inR at q
              unfold stepA
              dsimp only at q ⊢
              rw [q]
              rfl
            | _ => rfl
          rw [e]
          exact ⟨.rt (.bool false), xs_thenL (et_orT t1) trivial (xs_ret ev_bl), rfl, fun s' z => by cases z⟩
        | true =>
          rw [q] at t1
          obtain ⟨n, rfl, h1, h2⟩ := inR_inv q
          have t2 : EvT T K (tTest (tOp (XL.rLe) (tVar 4) (tVar 3))) ((r1 l).set 4 (.dat (.int n))) (decide (n ≤ l)) := by walk_at "et"
          have e : stepA lo hi l (.int n) = if decide (n ≤ l) = true then .rt (.bool false) else .go n := by
            unfold stepA
            unfold inR at q
            dsimp only at q ⊢
            rw [q]
            rfl
          rw [e]
          cases q2 : decide (n ≤ l) with
          | true =>
            rw [q2] at t2
            exact ⟨.rt (.bool false), xs_thenL (et_orF t1 t2) trivial (xs_ret ev_bl), rfl, fun s' z => by cases z⟩
          | false =>
            rw [q2] at t2
            exact ⟨_, xs_else (et_orF t1 t2) (xs_asg (ev_var rfl)), by show Wk _ _; walk_at "wk", fun _ _ => trivial⟩
  | _ =>
    refine xs_thenL ?_ trivial (xs_ret ev_bl)
    walk_at "etd"
def R__law_members (ds : List D) (r : Res) : Prop := ∃ d n, ds = [d, .int n] ∧ r = .ok (.bool (ascB d 0 (n - 1))) ∧ isDict d = false
theorem w__law_members : Walks T K N__law_members (t__law_members T K R__law_whole) R__law_members := by
  rintro W ds r ⟨d, n, rfl, rfl, hd⟩
  unfold t__law_members
  refine ⟨.rt (.bool (ascB d 0 (n - 1))), ?_, rfl⟩
  cases d with
  | dict kv => cases hd
  | list bs =>
    refine xs_else ?_ (xs_seq (xs_asg (d := .int (-1)) (by walk_at "ev")) ?_)
    · walk_at "etd"
    · let r1 : Int → List Slot := fun l => [.dat (.list bs), .dat (.int n), .dat (.int l), .any]
      have key := xs_for (T := T) (K := K) (cl := He.ga K) (W := W) (ρ := r1 (0 - 1)) (ρe := []) (r := r1) (s0 := 0 - 1) (step := stepA 0 (n - 1)) (I := fun _ l => -1 ≤ l) (j := 3) (l := bs) (e := fun x : D => x) (tl := tVar 0)
        (tu := tSeq (tIfS (tOr (tNot (tB (tCallS (SpX T K (He.ga K) R__law_whole) (WE W) (tCons (tVar 3) (tNil))))) (tOr (tTest (tOp (XL.rLe) (tVar 3) (tVar 2))) (tTest (tOp (XL.rGe) (tVar 3) (tVar 1))))) (tRet (tC (.bl false))) (tNext)) (tAsg (tVar 3) (gName 2))) ?_ (by walk_at "wk") (by omega) fun i l x hx hI => ?_
      · unfold ascB ascM
        dsimp only
        rcases loopA_or (lo := 0) (hi := n - 1) (bs := bs) (last := 0 - 1) with ⟨m, e⟩ | e
        · rw [e] at key ⊢
          exact xs_seq key (xs_ret ev_bl)
        · rw [e] at key ⊢
          exact xs_leave key trivial
      · apply EvV.is
        · walk_at "ev"
        · simp
      · cases q : isInt x with
        | false =>
          have e : stepA 0 (n - 1) l x = .rt (.bool false) := by
            cases x <;> first | rfl | cases q
          rw [e]
          refine ⟨.rt (.bool false), xs_thenL (et_orT ?_) trivial (xs_ret ev_bl), rfl, fun s' z => by cases z⟩
          walk_at "etd"
        | true =>
          obtain ⟨m, rfl⟩ := isInt_inv q
          have t0 : EvT T K (tNot (tB (tCallS (SpX T K (He.ga K) R__law_whole) (WE W) (tCons (tVar 3) (tNil))))) ((r1 l).set 3 (.dat (.int m))) false := by walk_at "etd"
          have t1 : EvT T K (tTest (tOp (XL.rLe) (tVar 3) (tVar 2))) ((r1 l).set 3 (.dat (.int m))) (decide (m ≤ l)) := by walk_at "et"
          have t2 : EvT T K (tTest (tOp (XL.rGe) (tVar 3) (tVar 1))) ((r1 l).set 3 (.dat (.int m))) (decide (n ≤ m)) := by walk_at "et"
          have tt := et_or t1 fun _ => t2
          by_cases h : m ≤ l ∨ n ≤ m
          · have e : stepA 0 (n - 1) l (.int m) = .rt (.bool false) := by
              unfold stepA
              dsimp only
              rw [if_pos (by simp; omega)]
            rw [e]
            exact ⟨.rt (.bool false), xs_thenL (et_orF t0 (tt.is (by simpa using h))) trivial (xs_ret ev_bl), rfl, fun s' z => by cases z⟩
          · have e : stepA 0 (n - 1) l (.int m) = .go m := by
              unfold stepA
              dsimp only
              rw [if_neg (by simp; omega)]
            rw [e]
            exact ⟨_, xs_else (et_orF t0 (tt.is (by simpa using h))) (xs_asg (ev_var rfl)), by show Wk _ _; walk_at "wk", fun s' z => by cases z; omega⟩
  | _ =>
    refine xs_thenL ?_ trivial (xs_ret ev_bl)
    walk_at "etd"
end
end K25
namespace K25
open PySem L2 XL
theorem natD_append {ms : List Nat} {k : Nat} : natD ms ++ [.int (k : Int)] = natD (ms ++ [k]) := by
  unfold natD
  rw [List.map_append]
  rfl
theorem natD_len {ms : List Nat} : (natD ms).length = ms.length := List.length_map _
def inN (n : Nat) (ms : List Nat) : Prop := ∀ x ∈ ms, x < n
section
variable {T : Tbs} {K : PySem.W.Frag}
def R_accepted (ds : List D) (r : Res) : Prop := ∃ (ss : List (Int × Int)) (c : Nat), ds = [sD ss, .int (c : Int)] ∧ r = .new ((bookI ss c).map .int) ∧ ss.length ≤ 1000
theorem w_accepted : Walks T K N_accepted (t_accepted T K R_stay_order R_has_moment) R_accepted := by
  rintro W ds r ⟨ss, c, rfl, rfl, hz⟩
  unfold t_accepted
  refine ⟨.rn ((bookI ss c).map .int), ?_, rfl⟩
  let r1 : List Nat → List Slot := fun ms => [.dat (sD ss), .dat (.int (c : Int)), .own (natD ms), .any, .any, .any, .any]
  have e0 : lsOut r1 [] (loopM (fun ms k => LS.go (stepB ss c ms k)) (order ss) []) = .nx (r1 (bookM ss c)) := by
    rw [loopM_fold fun _ _ _ => rfl]
    rfl
  refine xs_seq (xs_asgN (ds := []) (by walk_at "evn")) (xs_seq (XS.is (xs_for (r := r1) (ρe := []) (s0 := []) (step := fun ms k => LS.go (stepB ss c ms k)) (l := order ss) (e := fun k : Nat => PyData.int (k : Int)) (I := fun i ms => ms.length ≤ i ∧ inN ss.length ms) ?_ (by walk_at "wk") ⟨Nat.le_refl _, fun x h => by cases h⟩ fun i ms k hk hI => ?_) e0) ?_)
  · exact EvN.toD (evn_callS (ds := [sD ss]) (by walk_at "ea") ⟨_, rfl, rfl, hz⟩)
  · have hlt : k < ss.length := order_mem.mp (List.mem_of_getElem? hk)
    have hil : i < ss.length := by
      have := (List.getElem?_eq_some_iff.mp hk).1
      unfold order at this
      rw [List.length_mergeSort, List.length_range] at this
      exact this
    have a2 : atI (ss.map pairD) (k : Int) = some (pairD (stayAt ss k)) := at_map (stay_at hlt)
    let r2 : List Nat → Slot → Slot → List Slot := fun ms a b => [.dat (sD ss), .dat (.int (c : Int)), .own (natD ms), .dat (.int (k : Int)), a, b, .any]
    have hin : inN ss.length (ms ++ [k]) := fun x hx => by
      rcases List.mem_append.mp hx with hx | hx
      · exact hI.2 x hx
      · rw [List.mem_singleton.mp hx]; exact hlt
    have b1 : XS T K (He.ga K) W (tDrop (tBM K "list" rAppend (tVar 2) (tCons (tVar 3) (tNil)))) (r2 ms .any .any) (.nx (r2 (ms ++ [k]) .any .any)) := by
      refine (xs_app rfl (d := .int (k : Int)) (ev_var rfl) (by rw [natD_len]; omega)).is ?_
      rw [natD_append]
      rfl
    have b2 : XS T K (He.ga K) W (tAsg (tOp (rIx K) (tOp (rIx K) (tVar 0) (tVar 3)) (tC (.int 0))) (gName 4)) (r2 (ms ++ [k]) .any .any) (.nx (r2 (ms ++ [k]) (.dat (.int (stayAt ss k).1)) .any)) := (xs_asg (d := .int (stayAt ss k).1) (by walk_at "ev")).is rfl
    let pr := presL ss (stayAt ss k).1 (ms ++ [k])
    have b3 : XS T K (He.ga K) W (tAsg (tLc (iList K (tVar 2)) (gName 6) (tB (tCall (SpX T K (He.ga K) R_has_moment) [] E0 (tCons (tOp (rIx K) (tVar 0) (tVar 6)) (tCons (tVar 4) (tNil))))) (tVar 6) [6]) (gName 5)) (r2 (ms ++ [k]) (.dat (.int (stayAt ss k).1)) .any) (.nx (r2 (ms ++ [k]) (.dat (.int (stayAt ss k).1)) (.dat (.list (natD pr))))) := by
      refine (xs_asg (d := .list (natD pr)) (EvN.toD (evn_lc (l := ms ++ [k]) (e := fun k : Nat => PyData.int (k : Int)) (f := fun j => hasM (stayAt ss j) (stayAt ss k).1) (g := fun k : Nat => PyData.int (k : Int)) (evl_own rfl) (by simp; omega) (by simp) (fun j x hx => ?_) fun j x _ _ => ev_var rfl))).is rfl
      have hx2 := hin x (List.mem_of_getElem? hx)
      have a3 : atI (ss.map pairD) (x : Int) = some (pairD (stayAt ss x)) := at_map (stay_at hx2)
      exact et_B (ev_call (ds := [pairD (stayAt ss x), .int (stayAt ss k).1]) (ea_cons (by walk_at "ev") (ea_cons (ev_var rfl) ea_nil)) ⟨_, _, rfl, rfl⟩)
    have t1 : EvT T K (tTest (tOp (XL.rGt) (tCB (XL.rLen K) (tCons (tVar 5) (tNil))) (tVar 1))) (r2 (ms ++ [k]) (.dat (.int (stayAt ss k).1)) (.dat (.list (natD pr)))) (decide (pr.length > c)) := by
      apply EvT.is
      · walk_at "et"
      · rw [natD_len]
        simp
    refine ⟨.nx (r2 (stepB ss c ms k) (.dat (.int (stayAt ss k).1)) (.dat (.list (natD pr)))), xs_seq b1 (xs_seq b2 (xs_seq b3 ?_)), by show Wk _ _; walk_at "wk", fun s' e => ?_⟩
    · unfold stepB
      by_cases q : pr.length > c
      · rw [if_pos q]
        have h0 : 0 < pr.length := by omega
        have hw := worst_spec (ss := ss) h0
        have hwm : worst ss pr ∈ ms ++ [k] := (List.mem_filter.mp hw.1).1
        refine xs_ifT (t1.is (by simpa using q)) ((xs_rem (ns := castI (ms ++ [k])) (k0 := ((worst ss pr : Nat) : Int)) (by rw [← natD_cast]; rfl) ?_ ?_).is ?_)
        · refine ev_maxk (l := pr) (e := fun k : Nat => PyData.int (k : Int)) (key := keyE ss) (Ev.toL (ev_var rfl)) h0 rfl rfl (fun x hx => ?_) (worst_best h0)
          have hx2 := hin x (List.mem_filter.mp hx).1
          have a3 : atI (ss.map pairD) (x : Int) = some (pairD (stayAt ss x)) := at_map (stay_at hx2)
          show Ev T K _ [.dat (.int (x : Int)), .dat (sD ss)] _
          walk_at "ev"
        · exact List.mem_map.mpr ⟨_, hwm, rfl⟩
        · rw [castI_erase, ← natD_cast]
          rfl
      · rw [if_neg q]
        exact xs_ifF (t1.is (by simpa using q)) xs_next
    · cases e
      refine ⟨Nat.le_trans stepB_len (by omega), fun x hx => ?_⟩
      rcases stepB_mem hx with hx | rfl
      · exact hI.2 x hx
      · exact hlt
  · refine xs_retN (evn_b1 ?_ ran_sortI)
    have : EvL T K (tVar 2) (r1 (bookM ss c)) (natD (bookM ss c)) := evl_own rfl
    rw [natD_cast] at this
    exact this
def R__law_booked (ds : List D) (r : Res) : Prop := ∃ (ss : List (Int × Int)) (c : Nat), ds = [sD ss, .int (c : Int)] ∧ r = .new ((bookI ss c).map .int) ∧ ss.length ≤ 1000
theorem w__law_booked : Walks T K N__law_booked (t__law_booked T K R__law_holds) R__law_booked := by
  rintro W ds r ⟨ss, c, rfl, rfl, hz⟩
  unfold t__law_booked
  refine ⟨.rn ((bookI ss c).map .int), ?_, rfl⟩
  let r1 : List Nat → List Slot := fun ms => [.dat (sD ss), .dat (.int (c : Int)), .own (natD ms), .any, .any, .any]
  have e0 : lsOut r1 [] (loopM (fun ms k => LS.go (stepB ss c ms k)) (order ss) []) = .nx (r1 (bookM ss c)) := by
    rw [loopM_fold fun _ _ _ => rfl]
    rfl
  refine xs_seq (xs_asgN (ds := []) (by walk_at "evn")) (xs_seq (XS.is (xs_for (r := r1) (ρe := []) (s0 := []) (step := fun ms k => LS.go (stepB ss c ms k)) (l := order ss) (e := fun k : Nat => pairD (keyAt ss k)) (I := fun i ms => ms.length ≤ i ∧ inN ss.length ms) ?_ (by walk_at "wk") ⟨Nat.le_refl _, fun x h => by cases h⟩ fun i ms k hk hI => ?_) e0) ?_)
  · apply EvN.toD
    apply EvN.is
    · refine evn_b1 (EvN.toL ?_) (ran_sortP (l := (List.range ss.length).map (keyAt ss)))
      apply EvN.is
      · refine evn_lcRA (n := ss.length) (z := (ss.length : Int)) (g := fun k => pairD (keyAt ss k)) (ea_cons (EvV.is (ev_b1 (ev_var rfl) (RA1.l ra_lenL)) (by rw [List.length_map])) ea_nil) rfl (by omega) (by simp) fun k hk => ?_
        have a1 : atI (ss.map pairD) (k : Int) = some (pairD (stayAt ss k)) := at_map (stay_at hk)
        refine ev_tup (ea_cons (ev_op mono_pd (ev_op mono_pd (ev_var rfl) (ev_var rfl) (RD2.l1 (rd_ixL a1))) ev_int (rd_ixT rfl)) (ea_cons (ev_var rfl) ea_nil)) (by simp)
      · rw [List.map_map]; rfl
    · rw [sort_order, List.map_map]; rfl
  · have hlt : k < ss.length := order_mem.mp (List.mem_of_getElem? hk)
    have hil : i < ss.length := by
      have := (List.getElem?_eq_some_iff.mp hk).1
      unfold order at this
      rw [List.length_mergeSort, List.length_range] at this
      exact this
    let r2 : List Nat → Slot → List Slot := fun ms b => [.dat (sD ss), .dat (.int (c : Int)), .own (natD ms), .dat (pairD (keyAt ss k)), .any, b]
    have hin : inN ss.length (ms ++ [k]) := fun x hx => by
      rcases List.mem_append.mp hx with hx | hx
      · exact hI.2 x hx
      · rw [List.mem_singleton.mp hx]; exact hlt
    have b1 : XS T K (He.ga K) W (tDrop (tBM K "list" rAppend (tVar 2) (tCons (tOp (rIx K) (tVar 3) (tC (.int 1))) (tNil)))) (r2 ms .any) (.nx (r2 (ms ++ [k]) .any)) := by
      refine (xs_app rfl (d := .int (k : Int)) (ev_op mono_pd (ev_var rfl) ev_int (rd_ixT rfl)) (by rw [natD_len]; omega)).is ?_
      rw [natD_append]
      rfl
    let pr := presL ss (stayAt ss k).1 (ms ++ [k])
    have b3 : XS T K (He.ga K) W (tAsg (tLc (iList K (tVar 2)) (gName 4) (tB (tCall (SpX T K (He.ga K) R__law_holds) [] E0 (tCons (tOp (rIx K) (tVar 0) (tVar 4)) (tCons (tOp (rIx K) (tVar 3) (tC (.int 0))) (tNil))))) (tTup (tCons (tOp (rIx K) (tOp (rIx K) (tVar 0) (tVar 4)) (tC (.int 1))) (tCons (tVar 4) (tNil)))) [4]) (gName 5)) (r2 (ms ++ [k]) .any) (.nx (r2 (ms ++ [k]) (.dat (.list ((pr.map (keyE ss)).map pairD))))) := by
      refine (xs_asg (d := .list ((pr.map (keyE ss)).map pairD)) (EvN.toD ((evn_lc (l := ms ++ [k]) (e := fun k : Nat => PyData.int (k : Int)) (f := fun j => hasM (stayAt ss j) (stayAt ss k).1) (g := fun k : Nat => pairD (keyE ss k)) (evl_own rfl) (by simp; omega) (by simp) (fun j x hx => ?_) fun j x hx _ => ?_).is (by rw [List.map_map]; rfl)))).is rfl
      · have hx2 := hin x (List.mem_of_getElem? hx)
        have a3 : atI (ss.map pairD) (x : Int) = some (pairD (stayAt ss x)) := at_map (stay_at hx2)
        exact et_B (ev_call (ds := [pairD (stayAt ss x), .int (stayAt ss k).1]) (ea_cons (by walk_at "ev") (ea_cons (ev_op mono_pd (ev_var rfl) ev_int (rd_ixT rfl)) ea_nil)) ⟨_, _, rfl, rfl⟩)
      · have hx2 := hin x (List.mem_of_getElem? hx)
        have a3 : atI (ss.map pairD) (x : Int) = some (pairD (stayAt ss x)) := at_map (stay_at hx2)
        refine ev_tup (ea_cons (ev_op mono_pd (ev_op mono_pd (ev_var rfl) (ev_var rfl) (RD2.l1 (rd_ixL a3))) ev_int (rd_ixT rfl)) (ea_cons (ev_var rfl) ea_nil)) (by simp)
    have t1 : EvT T K (tTest (tOp (XL.rGt) (tCB (XL.rLen K) (tCons (tVar 5) (tNil))) (tVar 1))) (r2 (ms ++ [k]) (.dat (.list ((pr.map (keyE ss)).map pairD)))) (decide (pr.length > c)) := by
      apply EvT.is
      · walk_at "et"
      · rw [List.length_map, List.length_map]
        simp
    refine ⟨.nx (r2 (stepB ss c ms k) (.dat (.list ((pr.map (keyE ss)).map pairD)))), xs_seq b1 (xs_seq b3 ?_), by show Wk _ _; walk_at "wk", fun s' e => ?_⟩
    · unfold stepB
      by_cases q : pr.length > c
      · rw [if_pos q]
        have h0 : 0 < pr.length := by omega
        have hw := worst_spec (ss := ss) h0
        have hwm : worst ss pr ∈ ms ++ [k] := (List.mem_filter.mp hw.1).1
        refine xs_ifT (t1.is (by simpa using q)) ((xs_rem (ns := castI (ms ++ [k])) (k0 := ((worst ss pr : Nat) : Int)) (by rw [← natD_cast]; rfl) ?_ ?_).is ?_)
        · obtain ⟨p, ps, hps⟩ : ∃ p ps, pr = p :: ps := by
            cases h : pr with
            | nil => rw [h] at h0; cases h0
            | cons p ps => exact ⟨p, ps, rfl⟩
          have hmx : (maxP (keyE ss p) (ps.map (keyE ss))).2 = ((worst ss pr : Nat) : Int) := by
            have h1 : maxP (keyE ss p) (ps.map (keyE ss)) ∈ (p :: ps).map (keyE ss) := maxP_mem
            obtain ⟨a, ha, e⟩ := List.mem_map.mp h1
            have ew : worst ss pr = a := by
              unfold worst
              rw [hps]
              show (maxP (keyE ss p) (ps.map (keyE ss))).2.toNat = a
              rw [← e]
              simp [keyE]
            rw [ew, ← e]
            rfl
          rw [← hmx]
          have hl : EvL T K (tVar 5) (r2 (ms ++ [k]) (.dat (.list ((pr.map (keyE ss)).map pairD)))) ((keyE ss p :: ps.map (keyE ss)).map pairD) := by
            have := Ev.toL (T := T) (K := K) (ρ := r2 (ms ++ [k]) (.dat (.list ((pr.map (keyE ss)).map pairD)))) (te := tVar 5) (ds := (pr.map (keyE ss)).map pairD) (ev_var rfl)
            rw [hps] at this ⊢
            exact this
          exact ev_op mono_pd (ev_b1 hl ra_maxP) ev_int (rd_ixT rfl)
        · exact List.mem_map.mpr ⟨_, hwm, rfl⟩
        · rw [castI_erase, ← natD_cast]
          rfl
      · rw [if_neg q]
        exact xs_ifF (t1.is (by simpa using q)) xs_next
    · cases e
      refine ⟨Nat.le_trans stepB_len (by omega), fun x hx => ?_⟩
      rcases stepB_mem hx with hx | rfl
      · exact hI.2 x hx
      · exact hlt
  · refine xs_retN (evn_b1 ?_ ran_sortI)
    have : EvL T K (tVar 2) (r1 (bookM ss c)) (natD (bookM ss c)) := evl_own rfl
    rw [natD_cast] at this
    exact this
end
end K25
namespace K25
open PySem L2 XL
theorem int_at {ss : List (Int × Int)} {x : Int} (h0 : 0 ≤ x) (h1 : x < ss.length) : atI (ss.map pairD) x = some (pairD (stayAt ss x.toNat)) := by
  have e : ((x.toNat : Nat) : Int) = x := Int.toNat_of_nonneg h0
  have := at_map (f := pairD) (stay_at (ss := ss) (k := x.toNat) (by omega))
  rw [e] at this
  exact this
def isAccI (ss : List (Int × Int)) (c : Nat) (ns : List Int) (k : Int) : Bool := decide ((ns.filter fun j => hasM (stayAt ss j.toNat) (stayAt ss k.toNat).1).length ≤ c)
theorem fold_filter {α : Type} {p : α → Bool} : ∀ {l acc : List α}, l.foldl (fun acc a => if p a then acc ++ [a] else acc) acc = acc ++ l.filter p
  | [], acc => by simp
  | a :: l, acc => by
    rw [List.foldl_cons, fold_filter, List.filter_cons]
    cases p a <;> simp
def bitsL (cell : Int) (many : Nat) : List Nat := (List.range many).filter fun k => decide (atD (rowL cell 60 60) k % 6 ≤ atD (rowL cell 60 60) 59 % 5)
def subsL (many : Nat) : List (List Nat) := (List.range many).foldl (fun f k => f ++ f.map (· ++ [k])) [[]]
section
variable {T : Tbs} {K : PySem.W.Frag}
def R_most_bookings (ds : List D) (r : Res) : Prop := ∃ d c, ds = [d, c] ∧ isDict d = false ∧ ((∃ p, eShared d c "stays" = some p ∧ r = .ex p.1 p.2) ∨ ∃ ss n, d = sD ss ∧ c = .int ((n : Nat) : Int) ∧ okS ss ∧ ss.length ≤ 60 ∧ n ≤ 60 ∧ r = .new ((bookI ss n).map .int))
theorem w_most_bookings : Walks T K N_most_bookings (t_most_bookings T K R_accepted R_need_shared) R_most_bookings := by
  rintro W ds r ⟨d, c, rfl, hd, ⟨p, hp, rfl⟩ | ⟨ss, n, rfl, rfl, ho, h60, hn, rfl⟩⟩
  · unfold t_most_bookings
    have chk : EvW T K W (tCallS (SpX T K (He.ga K) R_need_shared) (WE W) (tCons (tVar 0) (tCons (tVar 1) (tCons (tC (.str "stays")) (tNil))))) (st0 N_most_bookings [d, c]) (erR (eShared d c "stays")) := evw_call (by walk_at "ea") ⟨_, _, _, rfl, rfl, hd⟩
    rw [hp] at chk
    exact ⟨.ex p.1 p.2 (st0 N_most_bookings [d, c]), xs_chkW (e := some p) chk (fun z => by cases z) (fun p2 z => by cases z; rfl), rfl, rfl⟩
  · unfold t_most_bookings
    have chk : EvW T K W (tCallS (SpX T K (He.ga K) R_need_shared) (WE W) (tCons (tVar 0) (tCons (tVar 1) (tCons (tC (.str "stays")) (tNil))))) (st0 N_most_bookings [sD ss, .int (n : Int)]) (erR (eShared (sD ss) (.int (n : Int)) "stays")) := evw_call (by walk_at "ea") ⟨_, _, _, rfl, rfl, hd⟩
    rw [eShared_ok ho h60 hn] at chk
    exact ⟨.rn ((bookI ss n).map .int), xs_chkW (e := none) chk (fun _ => xs_retN (evn_callS (ds := [sD ss, .int (n : Int)]) (by walk_at "ea") ⟨_, _, rfl, rfl, by omega⟩)) (fun p z => by cases z), rfl⟩
def R_is_accepted (ds : List D) (r : Res) : Prop := ∃ d c b, ds = [d, c, b] ∧ isDict d = false ∧ isDict b = false ∧ ((∃ p, eShared d c "stays" = some p ∧ r = .ex p.1 p.2) ∨ ∃ ss n, d = sD ss ∧ c = .int ((n : Nat) : Int) ∧ okS ss ∧ ss.length ≤ 60 ∧ n ≤ 60 ∧ (∀ bs, b = .list bs → bs.length ≤ 1000) ∧ r = .ok (.bool (isAcc ss n b)))
theorem w_is_accepted : Walks T K N_is_accepted (t_is_accepted T K R_has_moment R_is_ascending R_need_shared) R_is_accepted := by
  rintro W ds r ⟨d, c, b, rfl, hd, hb, ⟨p, hp, rfl⟩ | ⟨ss, n, rfl, rfl, ho, h60, hn, hbl, rfl⟩⟩
  · unfold t_is_accepted
    have chk : EvW T K W (tCallS (SpX T K (He.ga K) R_need_shared) (WE W) (tCons (tVar 0) (tCons (tVar 1) (tCons (tC (.str "stays")) (tNil))))) (st0 N_is_accepted [d, c, b]) (erR (eShared d c "stays")) := evw_call (by walk_at "ea") ⟨_, _, _, rfl, rfl, hd⟩
    rw [hp] at chk
    exact ⟨.ex p.1 p.2 (st0 N_is_accepted [d, c, b]), xs_chkW (e := some p) chk (fun z => by cases z) (fun p2 z => by cases z; rfl), rfl, rfl⟩
  · unfold t_is_accepted
    have chk : EvW T K W (tCallS (SpX T K (He.ga K) R_need_shared) (WE W) (tCons (tVar 0) (tCons (tVar 1) (tCons (tC (.str "stays")) (tNil))))) (st0 N_is_accepted [sD ss, .int (n : Int), b]) (erR (eShared (sD ss) (.int (n : Int)) "stays")) := evw_call (by walk_at "ea") ⟨_, _, _, rfl, rfl, hd⟩
    rw [eShared_ok ho h60 hn] at chk
    refine ⟨.rt (.bool (isAcc ss n b)), xs_chkW (e := none) chk (fun _ => ?_) (fun p z => by cases z), rfl⟩
    have t0 : EvT T K (tNot (tB (tCallS (SpX T K (He.ga K) R_is_ascending) (WE W) (tCons (tVar 2) (tCons (tC (.int 0)) (tCons (tOp (XL.rSub) (tCB (XL.rLen K) (tCons (tVar 0) (tNil))) (tC (.int 1))) (tNil))))))) (st0 N_is_accepted [sD ss, .int (n : Int), b]) (!ascB b 0 ((ss.length : Int) - 1)) := by
      refine et_not (et_B (ev_callS (ds := [b, .int 0, .int ((ss.length : Int) - 1)]) (ea_cons (ev_var rfl) (ea_cons ev_int (ea_cons (EvV.is (ev_op mono_pd (ev_b1 (ev_var rfl) (RA1.l ra_lenL)) ev_int rd_sub) (by rw [List.length_map])) ea_nil))) ⟨_, _, _, rfl, rfl, hb⟩))
    cases b with
    | list bs =>
      have hbl := hbl bs rfl
      have eA : ascB (.list bs) 0 ((ss.length : Int) - 1) = ascM bs 0 ((ss.length : Int) - 1) := rfl
      rw [eA] at t0
      unfold isAcc
      dsimp only
      cases q : ascM bs 0 ((ss.length : Int) - 1) with
      | false =>
        rw [q] at t0
        exact xs_thenL t0 trivial (xs_ret ev_bl)
      | true =>
        rw [q] at t0
        rw [Bool.true_and]
        obtain ⟨e1, e2, _⟩ := asc_ints q
        refine xs_else t0 ?_
        show XS T K (He.ga K) W _ [.dat (sD ss), .dat (.int (n : Int)), .dat (.list bs), .any, .any, .any] _
        generalize hns : intsOf bs = ns at e1 e2
        subst e1
        have hnl : ns.length ≤ 1000 := by simpa using hbl
        let r1 : Unit → List Slot := fun _ => [.dat (sD ss), .dat (.int (n : Int)), .dat (.list (ns.map .int)), .any, .any, .any]
        have key := xs_for (T := T) (K := K) (cl := He.ga K) (W := W) (ρ := r1 ()) (ρe := []) (r := r1) (s0 := ()) (step := fun (_ : Unit) (k : Int) => if !isAccI ss n ns k then LS.rt (.bool false) else .go ()) (I := fun _ _ => True) (j := 3) (l := ns) (e := PyData.int) (tl := tVar 2)
          (tu := tSeq (tAsg (tOp (rIx K) (tOp (rIx K) (tVar 0) (tVar 3)) (tC (.int 0))) (gName 4)) (tIfS (tTest (tOp (XL.rGt) (tCB (XL.rLen K) (tCons (tLc (iList K (tVar 2)) (gName 5) (tB (tCall (SpX T K (He.ga K) R_has_moment) [] E0 (tCons (tOp (rIx K) (tVar 0) (tVar 5)) (tCons (tVar 4) (tNil))))) (tVar 5) [5]) (tNil))) (tVar 1))) (tRet (tC (.bl false))) (tNext))) (ev_var rfl) (by walk_at "wk") trivial fun i _ k hk _ => ?_
        · rw [loop_any] at key
          have eacc : accB ss n ns = !(ns.any fun k => !isAccI ss n ns k) := by
            unfold accB
            rw [List.all_eq_not_any_not]
            rfl
          rw [eacc]
          cases q2 : ns.any (fun k => !isAccI ss n ns k) with
          | true =>
            rw [q2] at key
            exact xs_leave key trivial
          | false =>
            rw [q2] at key
            exact xs_seq key (xs_ret ev_bl)
        · have hkb := e2 k (List.mem_of_getElem? hk)
          have a1 := int_at (ss := ss) (x := k) hkb.1 (by omega)
          have t1 : EvT T K (tTest (tOp (XL.rGt) (tCB (XL.rLen K) (tCons (tLc (iList K (tVar 2)) (gName 5) (tB (tCall (SpX T K (He.ga K) R_has_moment) [] E0 (tCons (tOp (rIx K) (tVar 0) (tVar 5)) (tCons (tVar 4) (tNil))))) (tVar 5) [5]) (tNil))) (tVar 1))) (((r1 ()).set 3 (.dat (.int k))).set 4 (.dat (.int (stayAt ss k.toNat).1))) (!isAccI ss n ns k) := by
            apply EvT.is
            · refine et_test (ev_op mono_pd (ev_b1 (EvN.toL (evn_lc (l := ns) (e := PyData.int) (f := fun j => hasM (stayAt ss j.toNat) (stayAt ss k.toNat).1) (g := PyData.int) (Ev.toL (ev_var rfl)) (by omega) (by simp) (fun j x hx => ?_) fun j x _ _ => ev_var rfl)) ra_lenL) (ev_var rfl) rd_gt)
              have hxb := e2 x (List.mem_of_getElem? hx)
              have a2 := int_at (ss := ss) (x := x) hxb.1 (by omega)
              exact et_B (ev_call (ds := [pairD (stayAt ss x.toNat), .int (stayAt ss k.toNat).1]) (ea_cons (by walk_at "ev") (ea_cons (ev_var rfl) ea_nil)) ⟨_, _, rfl, rfl⟩)
            · unfold isAccI
              rw [List.length_map]
              by_cases h : (ns.filter fun j => hasM (stayAt ss j.toNat) (stayAt ss k.toNat).1).length ≤ n
              · simp [h]
              · simp [h]; omega
          have b1 : XS T K (He.ga K) W (tAsg (tOp (rIx K) (tOp (rIx K) (tVar 0) (tVar 3)) (tC (.int 0))) (gName 4)) ((r1 ()).set 3 (.dat (.int k))) (.nx (((r1 ()).set 3 (.dat (.int k))).set 4 (.dat (.int (stayAt ss k.toNat).1)))) := xs_asg (by walk_at "ev")
          cases q2 : !isAccI ss n ns k with
          | true =>
            rw [q2] at t1
            exact ⟨.rt (.bool false), xs_seq b1 (xs_ifT t1 (xs_ret ev_bl)), rfl, fun _ _ => trivial⟩
          | false =>
            rw [q2] at t1
            exact ⟨_, xs_seq b1 (xs_ifF t1 xs_next), by show Wk _ _; walk_at "wk", fun _ _ => trivial⟩
    | dict kv => cases hb
    | _ => exact xs_thenL t0 trivial (xs_ret ev_bl)
def R__law_is_accepted (ds : List D) (r : Res) : Prop := ∃ (ss : List (Int × Int)) (n : Nat) (b : D), ds = [sD ss, .int (n : Int), b] ∧ r = .ok (.bool (isAcc ss n b)) ∧ ss.length ≤ 1000 ∧ isDict b = false ∧ (∀ bs, b = .list bs → bs.length ≤ 1000)
theorem w__law_is_accepted : Walks T K N__law_is_accepted (t__law_is_accepted T K R__law_load R__law_members) R__law_is_accepted := by
  rintro W ds r ⟨ss, n, b, rfl, rfl, hz, hb, hbl⟩
  unfold t__law_is_accepted
  refine ⟨.rt (.bool (isAcc ss n b)), ?_, rfl⟩
  have t0 : EvT T K (tNot (tB (tCallS (SpX T K (He.ga K) R__law_members) (WE W) (tCons (tVar 2) (tCons (tCB (XL.rLen K) (tCons (tVar 0) (tNil))) (tNil)))))) (st0 N__law_is_accepted [sD ss, .int (n : Int), b]) (!ascB b 0 ((ss.length : Int) - 1)) := by
    refine et_not (et_B (ev_callS (ds := [b, .int (ss.length : Int)]) (ea_cons (ev_var rfl) (ea_cons (EvV.is (ev_b1 (ev_var rfl) (RA1.l ra_lenL)) (by rw [List.length_map])) ea_nil)) ⟨_, _, rfl, rfl, hb⟩))
  cases b with
  | list bs =>
    have hbl := hbl bs rfl
    have eA : ascB (.list bs) 0 ((ss.length : Int) - 1) = ascM bs 0 ((ss.length : Int) - 1) := rfl
    rw [eA] at t0
    unfold isAcc
    dsimp only
    cases q : ascM bs 0 ((ss.length : Int) - 1) with
    | false =>
      rw [q] at t0
      exact xs_thenL t0 trivial (xs_ret ev_bl)
    | true =>
      rw [q] at t0
      rw [Bool.true_and]
      obtain ⟨e1, e2, _⟩ := asc_ints q
      refine xs_else t0 ?_
      show XS T K (He.ga K) W _ [.dat (sD ss), .dat (.int (n : Int)), .dat (.list bs), .any, .any, .any] _
      generalize hns : intsOf bs = ns at e1 e2
      subst e1
      have hnl : ns.length ≤ 1000 := by simpa using hbl
      let held := ns.map fun k => stayAt ss k.toNat
      refine xs_seq (xs_asg (d := sD held) (EvN.toD ((evn_lcA (l := ns) (e := PyData.int) (g := fun k => pairD (stayAt ss k.toNat)) (Ev.toL (ev_var rfl)) (by omega) (by simp) fun i k hk => ?_).is (by rw [List.map_map]; rfl)))) (xs_ret ?_)
      · have hkb := e2 k (List.mem_of_getElem? hk)
        have a1 := int_at (ss := ss) (x := k) hkb.1 (by omega)
        walk_at "ev"
      · apply EvV.is
        · refine ev_b1 (EvN.toL ((evn_lcA (l := held) (e := pairD) (g := fun s => .bool (decide (loadL held s.1 ≤ (n : Int)))) (Ev.toL (ev_var rfl)) (by simp [held]; omega) (by simp) fun i s hs => ?_).is (List.map_map (g := PyData.bool) (f := fun s : Int × Int => decide (loadL held s.1 ≤ (n : Int)))).symm)) (ra_all (bs := held.map fun s => decide (loadL held s.1 ≤ (n : Int))))
          exact ev_op mono_pd (ev_call (ds := [sD held, .int s.1]) (ea_cons (ev_var rfl) (ea_cons (by walk_at "ev") ea_nil)) ⟨_, _, rfl, rfl, by simp [held]; omega⟩) (ev_var rfl) rd_le
        · unfold accB
          rw [List.all_map, List.all_map]
          congr 2
          funext k
          simp only [Function.comp, id]
          unfold loadL
          simp only [held]
          rw [List.filter_map, List.length_map]
          simp only [Function.comp_def]
          by_cases h : (ns.filter fun j => hasM (stayAt ss j.toNat) (stayAt ss k.toNat).1).length ≤ n
          · simp [h]
          · simp [h]
  | dict kv => cases hb
  | _ => exact xs_thenL t0 trivial (xs_ret ev_bl)
def R__law_bits (ds : List D) (r : Res) : Prop := ∃ (cell : Int) (many : Nat), ds = [.int cell, .int (many : Int)] ∧ r = .new (natD (bitsL cell many)) ∧ many ≤ 60
theorem w__law_bits : Walks T K N__law_bits (t__law_bits T K R__law_row) R__law_bits := by
  rintro W ds r ⟨cell, many, rfl, rfl, hm⟩
  unfold t__law_bits
  refine ⟨.rn (natD (bitsL cell many)), ?_, rfl⟩
  obtain ⟨hl, hmm⟩ := rowL_ok (cell := cell) (many := 60) (lim := 60) (by omega)
  unfold bitsL
  generalize hnums : rowL cell 60 60 = nums at hl hmm
  have at59 : atI (nums.map PyData.int) 59 = some (.int (atD nums 59)) := ints_at (k := 59) hl (by omega)
  let r1 : List Nat → List Slot := fun f => [.dat (.int cell), .dat (.int (many : Int)), .own (natD f), .dat (.list (nums.map .int)), .dat (.int (atD nums 59 % 5)), .any]
  have e0 : lsOut r1 [] (loopM (fun f k => LS.go (if decide (atD nums k % 6 ≤ atD nums 59 % 5) then f ++ [k] else f)) (List.range many) []) = .nx (r1 ((List.range many).filter fun k => decide (atD nums k % 6 ≤ atD nums 59 % 5))) := by
    rw [loopM_fold fun _ _ _ => rfl, fold_filter]
    rfl
  refine xs_seq (xs_asgN (ds := []) (by walk_at "evn")) (xs_seq (xs_asg (d := .list (nums.map .int)) ?_) (xs_seq (xs_asg (d := .int (atD nums 59 % 5)) ?_) (xs_seq (XS.is (xs_forR (r := r1) (ρe := []) (s0 := []) (step := fun f k => LS.go (if decide (atD nums k % 6 ≤ atD nums 59 % 5) then f ++ [k] else f)) (n := many) (z := (many : Int)) (I := fun i f => f.length ≤ i) (by walk_at "ea") rfl (by omega) (by walk_at "wk") (by simp) fun i f hi hI => ?_) e0) (xs_retO rfl))))
  · rw [← hnums]
    exact EvN.toD (evn_callS (ds := [.int cell, .int ((60 : Nat) : Int), .int 60]) (ea_cons (ev_var rfl) (ea_cons ev_int (ea_cons ev_int ea_nil))) ⟨_, _, _, rfl, rfl, by omega, by omega, by omega⟩)
  · exact ev_op mono_pd (ev_b1 (ev_op mono_pd (ev_var rfl) ev_int (RD2.l1 (rd_ixL at59))) ra_int) ev_int (rd_mod (by omega))
  · have ati : atI (nums.map PyData.int) (i : Int) = some (.int (atD nums i)) := ints_at hl (by omega)
    have t1 : EvT T K (tTest (tOp (XL.rLe) (tOp (XL.rMod) (tCB (XL.rInt) (tCons (tOp (rIx K) (tVar 3) (tVar 5)) (tNil))) (tC (.int 6))) (tVar 4))) ((r1 f).set 5 (.dat (.int (i : Int)))) (decide (atD nums i % 6 ≤ atD nums 59 % 5)) := by walk_at "et"
    cases q : decide (atD nums i % 6 ≤ atD nums 59 % 5) with
    | true =>
      rw [q] at t1
      refine ⟨.nx ((r1 (f ++ [i])).set 5 (.dat (.int (i : Int)))), xs_ifT t1 ((xs_app rfl (d := .int (i : Int)) (ev_var rfl) (by rw [natD_len]; omega)).is ?_), by show Wk _ _; walk_at "wk", fun s' e => ?_⟩
      · rw [natD_append]
        rfl
      · cases e
        simp
        exact hI
    | false =>
      rw [q] at t1
      exact ⟨.nx ((r1 f).set 5 (.dat (.int (i : Int)))), xs_ifF t1 xs_next, by show Wk _ _; walk_at "wk", fun s' e => by cases e; exact Nat.le_succ_of_le hI⟩
def R__law_subsets (ds : List D) (r : Res) : Prop := ∃ (many : Nat), ds = [.int (many : Int)] ∧ r = .new ((subsL many).map fun m => .list (natD m)) ∧ many ≤ 8
theorem w__law_subsets : Walks T K N__law_subsets (t__law_subsets T K) R__law_subsets := by
  rintro W ds r ⟨many, rfl, rfl, hm⟩
  unfold t__law_subsets
  refine ⟨.rn ((subsL many).map fun m => .list (natD m)), ?_, rfl⟩
  let r1 : List (List Nat) → List Slot := fun f => [.dat (.int (many : Int)), .own (f.map fun m => .list (natD m)), .any, .any]
  have e0 : lsOut r1 [] (loopM (fun f k => LS.go (f ++ f.map (· ++ [k]))) (List.range many) [[]]) = .nx (r1 (subsL many)) := by
    rw [loopM_fold fun _ _ _ => rfl]
    rfl
  refine xs_seq (xs_asgN (ds := [.list []]) (by walk_at "evn")) (xs_seq (XS.is (xs_forR (r := r1) (ρe := []) (s0 := [[]]) (step := fun f k => LS.go (f ++ f.map (· ++ [k]))) (n := many) (z := (many : Int)) (I := fun i f => f.length ≤ 2 ^ i ∧ ∀ m ∈ f, m.length ≤ i) (by walk_at "ea") rfl (by omega) (by walk_at "wk") ⟨by simp, by simp⟩ fun i f hi hI => ?_) e0) (xs_retO rfl))
  have h256 : 2 ^ i ≤ 2 ^ 8 := Nat.pow_le_pow_right (by omega) (by omega)
  refine ⟨.nx ((r1 (f ++ f.map (· ++ [i]))).set 2 (.dat (.int (i : Int)))), ?_, by show Wk _ _; walk_at "wk", fun s' e => ?_⟩
  · refine (xs_asgN (ds := (f ++ f.map (· ++ [i])).map fun m => .list (natD m)) ?_).is rfl
    apply EvN.is
    · refine evn_op mono_pl (evl_own rfl) (EvN.toL (evn_lcA (l := f) (e := fun m => .list (natD m)) (g := fun m => .list (natD (m ++ [i]))) (evl_own rfl) (by omega) (by simp) fun j m hmj => ?_)) (rdn_cat (by simp; omega))
      have hml := hI.2 m (List.mem_of_getElem? hmj)
      apply EvN.toD
      apply EvN.is
      · exact evn_op mono_pl (Ev.toL (ev_var rfl)) (EvN.toL (evn_lst (ds := [.int (i : Int)]) (by walk_at "ea") (by simp))) (rdn_cat (by rw [natD_len]; simp; omega))
      · exact natD_append
    · rw [List.map_append, List.map_map]
      rfl
  · cases e
    refine ⟨by rw [List.length_append, List.length_map, Nat.pow_succ]; omega, fun m hmm => ?_⟩
    rcases List.mem_append.mp hmm with h | h
    · exact Nat.le_succ_of_le (hI.2 m h)
    · obtain ⟨m', h', rfl⟩ := List.mem_map.mp h
      simp
      exact hI.2 m' h'
end
end K25
namespace K25
open PySem L2 XL
section
variable {T : Tbs} {K : PySem.W.Frag}
def R__law_said (ds : List D) (r : Res) : Prop := ∃ (way : Int) (d c : D) (p : ErP), ds = [.int way, d, c] ∧ r = .ok (tagE p) ∧ isDict d = false ∧ ((way = 0 ∨ way = 1) ∧ eShared d c "stays" = some p)
theorem w__law_said (hex : exAllB K exs = true) : Walks T K N__law_said (t__law_said T K R_is_accepted R_most_bookings) R__law_said := by
  rintro W ds r ⟨way, d, c, p, rfl, rfl, hd, hw⟩
  unfold t__law_said
  have fm : (∃ x, p = badP x) ∨ ∃ n, p = manyP n := er_form hw.2
  have key := xs_try (T := T) (K := K) (ρ := st0 N__law_said [.int way, d, c]) (W := W) (i := 3) (o := .ex p.1 p.2 (st0 N__law_said [.int way, d, c])) (exs := exs) hex (ws := [("BadValue", "what", "BadValue"), ("TooMany", "limit", "TooMany")])
    (tb := fun W' => tSeq (tIfS (tTest (tOp (rEqD K) (tVar 0) (tC (.int 0)))) (tRet (tTup (tCons (tC (.str "answer")) (tCons (tCallS (SpX T K (He.ga K) R_most_bookings) (WE W') (tCons (tVar 1) (tCons (tVar 2) (tNil)))) (tNil))))) (tNext)) (tRet (tTup (tCons (tC (.str "answer")) (tCons (tCallS (SpX T K (He.ga K) R_is_accepted) (WE W') (tCons (tVar 1) (tCons (tVar 2) (tCons (tC .non) (tNil))))) (tNil))))))
    (by intro q hq; simp at hq; rcases hq with rfl | rfl <;> simp [exs]) (fun W' => ?_) (fun c' fs ρ1 e => ?_)
  · have e : tagOut exs [("BadValue", "what", "BadValue"), ("TooMany", "limit", "TooMany")] (st0 N__law_said [.int way, d, c]) (.ex p.1 p.2 (st0 N__law_said [.int way, d, c])) = .rt (tagE p) := by
      rcases fm with ⟨x, rfl⟩ | ⟨n, rfl⟩ <;> rfl
    rw [e] at key
    exact ⟨_, key, rfl⟩
  · rcases hw with ⟨rfl | rfl, h⟩
    · refine xs_thenL ?_ trivial ?_
      · walk_at "etd"
      · exact xs_retW (evw_tag (evw_call (ds := [d, c]) (r := .ex p.1 p.2) (by walk_at "ea") ⟨_, _, rfl, hd, .inl ⟨p, h, rfl⟩⟩))
    · refine xs_else ?_ ?_
      · walk_at "etd"
      · exact xs_retW (evw_tag (evw_call (ds := [d, c, .none]) (r := .ex p.1 p.2) (by walk_at "ea") ⟨_, _, _, rfl, hd, rfl, .inl ⟨p, h, rfl⟩⟩))
  · cases e
    rcases fm with ⟨x, rfl⟩ | ⟨n, rfl⟩
    · refine ⟨⟨"what", by simp [exs]⟩, by show 3 < 4; omega, fun q hq e2 => ?_⟩
      simp at hq
      rcases hq with rfl | rfl
      · exact ⟨_, rfl⟩
      · exact absurd e2 (show ¬ ("TooMany" : Str) = ("BadValue" : Str) by decide)
    · refine ⟨⟨"limit", by simp [exs]⟩, by show 3 < 4; omega, fun q hq e2 => ?_⟩
      simp at hq
      rcases hq with rfl | rfl
      · exact absurd e2 (show ¬ ("BadValue" : Str) = ("TooMany" : Str) by decide)
      · exact ⟨_, rfl⟩
def R__law_spoilt (ds : List D) (r : Res) : Prop := ∃ (ns : List Int) (a : Nat) (ss : List (Int × Int)) (n : Nat), ds = [scr ns, .int (a : Int), sD ss, .int (n : Int)] ∧ r = .ok (.bool true) ∧ okS ss ∧ ss.length ≤ 60 ∧ n ≤ 60 ∧ a ≤ 100
theorem w__law_spoilt : Walks T K N__law_spoilt (t__law_spoilt T K R__law_said R__law_bad_stays R__law_row R__law_cell) R__law_spoilt := by
  rintro W ds r ⟨ns, a, ss, n, rfl, rfl, ho, h60, hn, ha⟩
  unfold t__law_spoilt
  refine ⟨.rt (.bool true), ?_, rfl⟩
  obtain ⟨hl, hm⟩ := rowL_ok (cell := cellL ns a) (many := 5) (lim := 60) (by omega)
  generalize hnums : rowL (cellL ns a) 5 60 = nums at hl hm
  have at0 : atI (nums.map PyData.int) 0 = some (.int (atD nums 0)) := ints_at (k := 0) hl (by omega)
  have at1 : atI (nums.map PyData.int) 1 = some (.int (atD nums 1)) := ints_at (k := 1) hl (by omega)
  have at2 : atI (nums.map PyData.int) 2 = some (.int (atD nums 2)) := ints_at (k := 2) hl (by omega)
  have at3 : atI (nums.map PyData.int) 3 = some (.int (atD nums 3)) := ints_at (k := 3) hl (by omega)
  have at4 : atI (nums.map PyData.int) 4 = some (.int (atD nums 4)) := ints_at (k := 4) hl (by omega)
  have p4 := (hm _ (atD_mem (k := 4) (by omega))).1
  refine xs_seq (xs_asg (d := .list (nums.map .int)) ?_) (xs_seq (xs_asgN (ds := [sD ss, .int (n : Int)]) ?_) (xs_seq (xs_asg (d := .none) ev_non) ?_))
  · apply EvN.toD
    rw [← hnums]
    refine evn_callS (ds := [.int (cellL ns a), .int ((5 : Nat) : Int), .int 60]) (ea_cons (ev_callS (ds := [scr ns, .int (a : Int)]) (by walk_at "ea") ⟨_, _, rfl, rfl, by omega⟩) (ea_cons ev_int (ea_cons ev_int ea_nil))) ⟨_, _, _, rfl, rfl, by omega, by omega, by omega⟩
  · walk_at "evn"
  · let r1 : D → D → D → Slot → List Slot := fun d c u x => [.dat (scr ns), .dat (.int (a : Int)), .dat (sD ss), .dat (.int (n : Int)), .dat (.list (nums.map .int)), .own [d, c], .dat u, x, .any]
    -- the count
    refine xs_seq (ρ1 := r1 (sD ss) (cntD n nums) (due1 nums) .any) ?_ ?_
    · unfold cntD due1
      have t1 : EvT T K (tTest (tOp (rEqD K) (tOp (XL.rMod) (tCB (XL.rInt) (tCons (tOp (rIx K) (tVar 4) (tC (.int 0))) (tNil))) (tC (.int 2))) (tC (.int 0)))) (r1 (sD ss) (.int (n : Int)) .none .any) (decide (atD nums 0 % 2 = 0)) := by
        apply EvT.is
        · walk_at "et"
        · rw [eqv_ii]
      by_cases q : atD nums 0 % 2 = 0
      · rw [if_pos q, if_pos q]
        have bi := (spoilC_mem (w := atD nums 1 % 6) (by omega) (by omega)).2
        refine xs_ifT (t1.is (by simpa using q)) (xs_seq (xs_setI (n := 1) (m := 1) (d := spoilC (atD nums 1 % 6)) rfl ?_ ev_int rfl) (xs_asg (d := .tuple [.str "BadValue", .str "count"]) (by walk_at "ev")))
        refine ev_op mono_pl (EvN.toL (evn_lst (ds := spoilL) ?_ (by simp [spoilL]))) ?_ (rd_ixL bi)
        · unfold spoilL
          walk_at "ea"
        · exact ev_op mono_pd (ev_b1 (ev_op mono_pd (ev_var rfl) ev_int (RD2.l1 (rd_ixL at1))) ra_int) ev_int (rd_mod (by omega))
      · rw [if_neg q, if_neg q]
        exact xs_ifF (t1.is (by simpa using q)) xs_next
    -- the stays
    · obtain ⟨p, hp, hpd⟩ := badS_err ss (atD nums 3 % 11) (atD nums 4)
      refine xs_seq (ρ1 := r1 (stD ss nums) (cntD n nums) (due2 nums) .any) ?_ ?_
      · unfold stD due2
        have t1 : EvT T K (tTest (tOp (rEqD K) (tOp (XL.rMod) (tCB (XL.rInt) (tCons (tOp (rIx K) (tVar 4) (tC (.int 2))) (tNil))) (tC (.int 2))) (tC (.int 0)))) (r1 (sD ss) (cntD n nums) (due1 nums) .any) (decide (atD nums 2 % 2 = 0)) := by
          apply EvT.is
          · walk_at "et"
          · rw [eqv_ii]
        by_cases q : atD nums 2 % 2 = 0
        · rw [if_pos q, if_pos q]
          have w1 : XS T K (He.ga K) W (tAsg (tCallS (SpX T K (He.ga K) R__law_bad_stays) (WE W) (tCons (tVar 2) (tCons (tOp (XL.rMod) (tCB (XL.rInt) (tCons (tOp (rIx K) (tVar 4) (tC (.int 3))) (tNil))) (tC (.int 11))) (tCons (tOp (rIx K) (tVar 4) (tC (.int 4))) (tNil))))) (gName 7)) (r1 (sD ss) (cntD n nums) (due1 nums) .any) (.nx (r1 (sD ss) (cntD n nums) (due1 nums) (.dat (.tuple [badS ss (atD nums 3 % 11) (atD nums 4), badDue (atD nums 3 % 11)])))) := by
            refine xs_asg (ev_callS (ds := [sD ss, .int (atD nums 3 % 11), .int (atD nums 4)]) (ea_cons (ev_var rfl) (ea_cons (ev_op mono_pd (ev_b1 (ev_op mono_pd (ev_var rfl) ev_int (RD2.l1 (rd_ixL at3))) ra_int) ev_int (rd_mod (by omega))) (ea_cons (by walk_at "ev") ea_nil))) ⟨_, _, _, rfl, rfl, by omega, by omega, p4⟩)
          exact xs_wk (xs_ifT (t1.is (by simpa using q)) (xs_seq w1 (xs_seq (xs_setI (n := 0) (m := 0) (d := badS ss (atD nums 3 % 11) (atD nums 4)) rfl (by walk_at "ev") ev_int rfl) (xs_asg (d := badDue (atD nums 3 % 11)) (by walk_at "ev"))))) (by walk_at "wk")
        · rw [if_neg q, if_neg q]
          exact xs_ifF (t1.is (by simpa using q)) xs_next
      · have fin : ∀ p : ErP, eShared (stD ss nums) (cntD n nums) "stays" = some p → isDict (stD ss nums) = false → tagE p = due2 nums → Shp 1 (due2 nums) → isN (due2 nums) = false → XS T K (He.ga K) W (tSeq (tIfS (tTest (tOp (XL.rIsN) (tVar 6) (tC .non))) (tRet (tC (.bl true))) (tNext)) (tRet (tCB (rAll K) (tCons (tLc (iRng1 (tCons (tC (.int 2)) (tNil))) (gName 8) (tYes) (tOp (rEqD K) (tCall (SpX T K (He.ga K) R__law_said) [] E0 (tCons (tVar 8) (tCons (tOp (rIx K) (tVar 5) (tC (.int 0))) (tCons (tOp (rIx K) (tVar 5) (tC (.int 1))) (tNil))))) (tVar 6)) [8]) (tNil))))) (r1 (stD ss nums) (cntD n nums) (due2 nums) .any) (.rt (.bool true)) := by
          intro p hp hd e hs hN
          refine xs_else ?_ (xs_ret ?_)
          · apply EvT.is
            · walk_at "et"
            · exact hN
          · apply EvV.is
            · refine ev_b1 (EvN.toL ?_) (ra_all (bs := List.replicate 2 true))
              apply EvN.is
              · refine evn_lcRA (n := 2) (z := 2) (g := fun _ => .bool true) (by walk_at "ea") rfl (by omega) (by simp) fun k hk => ?_
                apply EvV.is
                · refine ev_op mono_pd (ev_call (d := tagE p) (ds := [.int (k : Int), stD ss nums, cntD n nums]) (ea_cons (ev_var rfl) (ea_cons (ev_op mono_pl (evl_own rfl) ev_int (rd_ixL rfl)) (ea_cons (ev_op mono_pl (evl_own rfl) ev_int (rd_ixL rfl)) ea_nil))) ⟨_, _, _, p, rfl, rfl, hd, by omega, hp⟩) (ev_var rfl) (rd_eq (by rw [e]; exact hs.ok) hs.ok)
                · rw [e, eqv_self hs]
              · rfl
            · rfl
        by_cases q2 : atD nums 2 % 2 = 0
        · have e1 : stD ss nums = badS ss (atD nums 3 % 11) (atD nums 4) := if_pos q2
          have e2 : due2 nums = badDue (atD nums 3 % 11) := if_pos q2
          refine fin p (by rw [e1]; exact eShared_of hp) (by rw [e1]; exact badS_dict _ _ _) (by rw [e2]; exact hpd) (by rw [e2]; exact due_shp _) ?_
          rw [e2]
          unfold badDue
          split <;> rfl
        · have e1 : stD ss nums = sD ss := if_neg q2
          have e2 : due2 nums = due1 nums := if_neg q2
          by_cases q1 : atD nums 0 % 2 = 0
          · have e3 : due1 nums = .tuple [.str "BadValue", .str "count"] := if_pos q1
            have e4 : cntD n nums = spoilC (atD nums 1 % 6) := if_pos q1
            have no := spoil_no _ (spoilC_mem (w := atD nums 1 % 6) (by omega) (by omega)).1
            refine fin (badP "count") ?_ (by rw [e1]; rfl) (by rw [e2, e3]; rfl) (by rw [e2, e3]; exact tag_shp (p := badP "count") (.inl ⟨_, rfl, by decide +kernel⟩)) (by rw [e2, e3]; rfl)
            rw [e1, e4]
            unfold eShared eRange
            rw [eStays_ok ho (by omega), no]
            rfl
          · have e3 : due1 nums = .none := if_neg q1
            refine xs_thenL ?_ trivial (xs_ret ev_bl)
            rw [e2, e3]
            walk_at "etd"
end
/-! ### the papers -/
def spD (base : List Int) (nums : List Int) : Nat := (atD nums 0 % (base.length : Int)).toNat
def okP (d : D) : Prop := Shp 3 d ∧ isDict d = false ∧ ∀ bs, d = .list bs → bs.length ≤ 1000
theorem shp_int_of {n : Nat} {base : List Int} : ∀ d ∈ base.map PyData.int, Shp n d := fun d h => by
  obtain ⟨i, _, rfl⟩ := List.mem_map.mp h
  exact shp_int
theorem shp_nat_of {n : Nat} {ms : List Nat} : ∀ d ∈ natD ms, Shp n d := fun d h => by
  obtain ⟨i, _, rfl⟩ := List.mem_map.mp h
  exact shp_int
theorem ok_list {ds : List D} (h : ∀ d ∈ ds, Shp 2 d) (hl : ds.length ≤ 1000) : okP (.list ds) := ⟨shp_list h, rfl, fun bs e => by cases e; exact hl⟩
def dropL (base : List Int) (n : Nat) : List Nat := (List.range n).filter fun k : Nat => !decide ((k : Int) ∈ base)
def moreD (base : List Int) (n : Nat) (nums : List Int) : Nat := ((dropL base n)[(atD nums 1 % ((dropL base n).length : Int)).toNat]?).getD 0
def papA (base : List Int) (n : Nat) (bits : List Nat) : List D := [.list (base.map .int), .list (natD bits), .list (natD (List.range n)), .list [], .list (base.map .int ++ [.int (n : Int)]), .list ([.int (-1)] ++ base.map .int), .list (base.map PyData.int).reverse, .list (base.map .int ++ cut (base.map PyData.int) (some (-1)) none)]
def papB (base : List Int) : List D := [.tuple (base.map .int), .none, .str "0", .list (base.map fun k => .bool (decide (k = 1)))]
def papC (base : List Int) (nums : List Int) : List D := [.list ((base.map PyData.int).take (spD base nums) ++ (base.map PyData.int).drop (spD base nums + 1)), .list ((base.map PyData.int).take (spD base nums) ++ [.bool (decide (atD base (spD base nums) = 1))] ++ (base.map PyData.int).drop (spD base nums + 1))]
def papE (base : List Int) (n : Nat) (nums : List Int) : List D := [.list ((sortI (base ++ [(moreD base n nums : Int)])).map .int), .list ((sortI (base.take (spD base nums) ++ base.drop (spD base nums + 1) ++ [(moreD base n nums : Int)])).map .int)]
def papersL (base : List Int) (n : Nat) (bits : List Nat) (nums : List Int) : List D :=
  if 0 < base.length then (if 0 < (dropL base n).length then papA base n bits ++ papB base ++ papC base nums ++ papE base n nums else papA base n bits ++ papB base ++ papC base nums) else papA base n bits ++ papB base
theorem cut_len {α : Type} {xs : List α} {lo hi : Option Int} : (cut xs lo hi).length ≤ xs.length := by
  unfold cut
  rw [List.length_take, List.length_drop]
  omega
theorem ok_papers {base : List Int} {n : Nat} {bits : List Nat} {nums : List Int} (hb : base.length ≤ 60) (hn : n ≤ 60) (hbits : bits.length ≤ 60) : ∀ d ∈ papersL base n bits nums, okP d := by
  have hA : ∀ d ∈ papA base n bits, okP d := fun d hd => by
    simp only [papA, List.mem_cons, List.not_mem_nil, or_false] at hd
    rcases hd with rfl | rfl | rfl | rfl | rfl | rfl | rfl | rfl
    · exact ok_list (fun d h => shp_int_of d h) (by simp; omega)
    · exact ok_list (fun d h => shp_nat_of d h) (by rw [natD_len]; omega)
    · exact ok_list (fun d h => shp_nat_of d h) (by rw [natD_len]; simp; omega)
    · exact ok_list (fun d h => by cases h) (by simp)
    · exact ok_list (fun d h => by
        rcases List.mem_append.mp h with h | h
        · exact shp_int_of d h
        · rw [List.mem_singleton.mp h]; exact shp_int) (by simp; omega)
    · exact ok_list (fun d h => by
        rcases List.mem_append.mp h with h | h
        · rw [List.mem_singleton.mp h]; exact shp_int
        · exact shp_int_of d h) (by simp; omega)
    · exact ok_list (fun d h => shp_int_of d (List.mem_reverse.mp h)) (by simp; omega)
    · exact ok_list (fun d h => by
        rcases List.mem_append.mp h with h | h
        · exact shp_int_of d h
        · exact shp_int_of d (List.mem_of_mem_drop (List.mem_of_mem_take h))) (by
          have := cut_len (xs := base.map PyData.int) (lo := some (-1)) (hi := none)
          rw [List.length_map] at this
          rw [List.length_append, List.length_map]
          omega)
  have hB : ∀ d ∈ papB base, okP d := fun d hd => by
    simp only [papB, List.mem_cons, List.not_mem_nil, or_false] at hd
    rcases hd with rfl | rfl | rfl | rfl
    · exact ⟨shp_tuple fun d h => shp_int_of d h, rfl, fun bs e => by cases e⟩
    · exact ⟨shp_none, rfl, fun bs e => by cases e⟩
    · exact ⟨shp_str (by decide +kernel), rfl, fun bs e => by cases e⟩
    · exact ok_list (fun d h => by
        obtain ⟨i, _, rfl⟩ := List.mem_map.mp h
        exact shp_bool) (by simp; omega)
  have hC : ∀ d ∈ papC base nums, okP d := fun d hd => by
    simp only [papC, List.mem_cons, List.not_mem_nil, or_false] at hd
    rcases hd with rfl | rfl
    · exact ok_list (fun d h => by
        rcases List.mem_append.mp h with h | h
        · exact shp_int_of d (List.mem_of_mem_take h)
        · exact shp_int_of d (List.mem_of_mem_drop h)) (by simp; omega)
    · exact ok_list (fun d h => by
        rcases List.mem_append.mp h with h | h
        · rcases List.mem_append.mp h with h | h
          · exact shp_int_of d (List.mem_of_mem_take h)
          · rw [List.mem_singleton.mp h]; exact shp_bool
        · exact shp_int_of d (List.mem_of_mem_drop h)) (by simp; omega)
  have hE : ∀ d ∈ papE base n nums, okP d := fun d hd => by
    simp only [papE, List.mem_cons, List.not_mem_nil, or_false] at hd
    rcases hd with rfl | rfl
    · exact ok_list (fun d h => shp_int_of d h) (by rw [List.length_map, (sortI_perm _).length_eq]; simp; omega)
    · exact ok_list (fun d h => shp_int_of d h) (by rw [List.length_map, (sortI_perm _).length_eq]; simp; omega)
  intro d hd
  unfold papersL at hd
  split at hd
  · split at hd
    · simp only [List.mem_append] at hd
      rcases hd with ((h | h) | h) | h
      · exact hA d h
      · exact hB d h
      · exact hC d h
      · exact hE d h
    · simp only [List.mem_append] at hd
      rcases hd with (h | h) | h
      · exact hA d h
      · exact hB d h
      · exact hC d h
  · simp only [List.mem_append] at hd
    rcases hd with h | h
    · exact hA d h
    · exact hB d h
end K25
namespace K25
open PySem L2 XL
def ld (ss : List (Int × Int)) (O : List Nat) (t : Int) : Nat := (presL ss t O).length
structure Fe (ss : List (Int × Int)) (c : Nat) (O : List Nat) : Prop where
  nd : O.Nodup
  lt : ∀ k ∈ O, k < ss.length
  ld : ∀ t, ld ss O t ≤ c
theorem mem_pres {ss : List (Int × Int)} {t : Int} {O : List Nat} {x : Nat} : x ∈ presL ss t O ↔ x ∈ O ∧ (stayAt ss x).1 ≤ t ∧ t < (stayAt ss x).2 := by
  unfold presL
  rw [List.mem_filter]
  unfold hasM
  simp
theorem pres_nd {ss : List (Int × Int)} {t : Int} {O : List Nat} (h : O.Nodup) : (presL ss t O).Nodup := h.sublist List.filter_sublist
theorem ld_sub {ss : List (Int × Int)} {t : Int} {O M : List Nat} (h : O.Nodup) (hs : ∀ x ∈ presL ss t O, x ∈ M) : ld ss O t ≤ M.length := nodup_le (pres_nd h) hs
structure GI (ss : List (Int × Int)) (c : Nat) (pre S : List Nat) : Prop where
  nd : S.Nodup
  sub : ∀ x ∈ S, x ∈ pre
  ld : ∀ t, ld ss S t ≤ c
  best : ∀ A, Fe ss c A → ∃ O, Fe ss c O ∧ A.length ≤ O.length ∧ ∀ x ∈ O, x ∈ pre → x ∈ S
theorem gi_step {ss : List (Int × Int)} {c : Nat} {pre post S : List Nat} {k : Nat} (ho : okS ss) (e : order ss = pre ++ k :: post) (G : GI ss c pre S) : GI ss c (pre ++ [k]) (stepB ss c S k) := by
  have nd := order_nodup ss
  rw [e] at nd
  have srt := order_sorted ss
  rw [e] at srt
  have hkp : k ∉ pre := fun z => (List.nodup_append.mp nd).2.2 k z k List.mem_cons_self rfl
  have hkS : k ∉ S := fun z => hkp (G.sub k z)
  have memo : ∀ x, x < ss.length → x ∈ pre ++ k :: post := fun x hx => by rw [← e]; exact order_mem.mpr hx
  have lto : ∀ x ∈ pre ++ [k], x < ss.length := fun x hx => order_mem.mp (by
    rw [e]
    rcases List.mem_append.mp hx with h | h
    · exact List.mem_append_left _ h
    · rw [List.mem_singleton.mp h]; simp)
  have before : ∀ x ∈ pre, (stayAt ss x).1 ≤ (stayAt ss k).1 := fun x hx => by
    have := (List.pairwise_append.mp srt).2.2 x hx k List.mem_cons_self
    unfold leP keyAt at this
    simp at this
    omega
  have after : ∀ x, x < ss.length → (stayAt ss x).1 < (stayAt ss k).1 → x ∈ pre := fun x hx hlt => by
    rcases List.mem_append.mp (memo x hx) with h | h
    · exact h
    · rcases List.mem_cons.mp h with rfl | h
      · omega
      · have := (List.pairwise_cons.mp (List.pairwise_append.mp srt).2.1).1 x h
        unfold leP keyAt at this
        simp at this
        omega
  have okk := ho _ (List.mem_of_getElem? (stay_at (lto k (by simp))))
  have nd1 : (S ++ [k]).Nodup := List.nodup_append.mpr ⟨G.nd, by simp, fun a ha b hb => by rw [List.mem_singleton.mp hb]; exact fun z => hkS (z ▸ ha)⟩
  have sub1 : ∀ x ∈ S ++ [k], x ∈ pre ++ [k] := fun x hx => by
    rcases List.mem_append.mp hx with h | h
    · exact List.mem_append_left _ (G.sub x h)
    · exact List.mem_append_right _ h
  have st1 : ∀ x ∈ S ++ [k], (stayAt ss x).1 ≤ (stayAt ss k).1 := fun x hx => by
    rcases List.mem_append.mp hx with h | h
    · exact before x (G.sub x h)
    · rw [List.mem_singleton.mp h]; exact Int.le_refl _
  have late : ∀ t x, (stayAt ss k).1 ≤ t → x ∈ presL ss t (S ++ [k]) → x ∈ presL ss (stayAt ss k).1 (S ++ [k]) := fun t x ht hx => by
    obtain ⟨h1, h2, h3⟩ := mem_pres.mp hx
    exact mem_pres.mpr ⟨h1, st1 x h1, by omega⟩
  have early : ∀ t, t < (stayAt ss k).1 → ld ss (S ++ [k]) t ≤ c := fun t ht => by
    refine Nat.le_trans (ld_sub (M := presL ss t S) nd1 fun x hx => ?_) (G.ld t)
    obtain ⟨h1, h2, h3⟩ := mem_pres.mp hx
    rcases List.mem_append.mp h1 with h | h
    · exact mem_pres.mpr ⟨h, h2, h3⟩
    · rw [List.mem_singleton.mp h] at h2
      omega
  unfold stepB
  by_cases q : (presL ss (stayAt ss k).1 (S ++ [k])).length > c
  · rw [if_pos q]
    obtain ⟨hr, hmax⟩ := worst_spec (ss := ss) (pr := presL ss (stayAt ss k).1 (S ++ [k])) (by omega)
    generalize hre : worst ss (presL ss (stayAt ss k).1 (S ++ [k])) = r at hr hmax
    obtain ⟨hr1, hr2, hr3⟩ := mem_pres.mp hr
    have hend : ∀ p ∈ presL ss (stayAt ss k).1 (S ++ [k]), (stayAt ss p).2 ≤ (stayAt ss r).2 := fun p hp => by
      have := hmax p hp
      unfold leP keyE at this
      simp at this
      omega
    have ndE : ((S ++ [k]).erase r).Nodup := nd1.erase r
    have memE : ∀ x, x ∈ (S ++ [k]).erase r ↔ x ≠ r ∧ x ∈ S ++ [k] := fun x => nd1.mem_erase_iff
    have pr1 : (presL ss (stayAt ss k).1 (S ++ [k])).length ≤ c + 1 := by
      have h1 := G.ld (stayAt ss k).1
      have : (presL ss (stayAt ss k).1 (S ++ [k])).length ≤ (k :: presL ss (stayAt ss k).1 S).length := nodup_le (pres_nd nd1) fun x hx => by
        obtain ⟨h1, h2⟩ := mem_pres.mp hx
        rcases List.mem_append.mp h1 with h | h
        · exact List.mem_cons_of_mem _ (mem_pres.mpr ⟨h, h2⟩)
        · rw [List.mem_singleton.mp h]; exact List.mem_cons_self
      rw [List.length_cons] at this
      have h2 : (presL ss (stayAt ss k).1 S).length ≤ c := h1
      omega
    have ldE : ∀ t, ld ss ((S ++ [k]).erase r) t ≤ c := fun t => by
      by_cases ht : t < (stayAt ss k).1
      · refine Nat.le_trans (ld_sub (M := presL ss t (S ++ [k])) ndE fun x hx => ?_) (early t ht)
        obtain ⟨h1, h2⟩ := mem_pres.mp hx
        exact mem_pres.mpr ⟨((memE x).mp h1).2, h2⟩
      · have h1 : ld ss ((S ++ [k]).erase r) t ≤ ((presL ss (stayAt ss k).1 (S ++ [k])).erase r).length := ld_sub ndE fun x hx => by
          obtain ⟨h1, h2⟩ := mem_pres.mp hx
          obtain ⟨h3, h4⟩ := (memE x).mp h1
          exact (List.mem_erase_of_ne h3).mpr (late t x (by omega) (mem_pres.mpr ⟨h4, h2⟩))
        rw [List.length_erase_of_mem hr] at h1
        omega
    refine ⟨ndE, fun x hx => sub1 x ((memE x).mp hx).2, ldE, fun A hA => ?_⟩
    obtain ⟨O, hO, hlen, hsub⟩ := G.best A hA
    by_cases hrO : r ∈ O
    · obtain ⟨p, hp, hpO⟩ : ∃ p ∈ presL ss (stayAt ss k).1 (S ++ [k]), p ∉ O := by
        refine Classical.byContradiction fun z => ?_
        have : (presL ss (stayAt ss k).1 (S ++ [k])).length ≤ (presL ss (stayAt ss k).1 O).length := nodup_le (pres_nd nd1) fun x hx => by
          refine mem_pres.mpr ⟨Classical.byContradiction fun y => z ⟨x, hx, y⟩, (mem_pres.mp hx).2⟩
        have := hO.ld (stayAt ss k).1
        unfold ld at this
        omega
      obtain ⟨hp1, hp2, hp3⟩ := mem_pres.mp hp
      have hpr : p ≠ r := fun z => hpO (z ▸ hrO)
      have memO : ∀ x, x ∈ O.erase r ↔ x ≠ r ∧ x ∈ O := fun x => hO.nd.mem_erase_iff
      have ndO : (p :: O.erase r).Nodup := List.nodup_cons.mpr ⟨fun z => hpO ((memO p).mp z).2, hO.nd.erase r⟩
      have subO : ∀ x ∈ p :: O.erase r, x ∈ pre ++ [k] → x ∈ (S ++ [k]).erase r := fun x hx hxp => by
        rcases List.mem_cons.mp hx with rfl | hx
        · exact (memE x).mpr ⟨hpr, hp1⟩
        · obtain ⟨h1, h2⟩ := (memO x).mp hx
          refine (memE x).mpr ⟨h1, ?_⟩
          rcases List.mem_append.mp hxp with h | h
          · exact List.mem_append_left _ (hsub x h2 h)
          · exact List.mem_append_right _ h
      refine ⟨p :: O.erase r, ⟨ndO, fun x hx => ?_, fun t => ?_⟩, ?_, subO⟩
      · rcases List.mem_cons.mp hx with rfl | hx
        · exact lto x (sub1 x hp1)
        · exact hO.lt x ((memO x).mp hx).2
      · by_cases ht : t < (stayAt ss k).1
        · refine Nat.le_trans (ld_sub (M := presL ss t ((S ++ [k]).erase r)) ndO fun x hx => ?_) (ldE t)
          obtain ⟨h1, h2, h3⟩ := mem_pres.mp hx
          have hxl : x < ss.length := by
            rcases List.mem_cons.mp h1 with rfl | h
            · exact lto x (sub1 x hp1)
            · exact hO.lt x ((memO x).mp h).2
          exact mem_pres.mpr ⟨subO x h1 (List.mem_append_left _ (after x hxl (by omega))), h2, h3⟩
        · by_cases hpt : t < (stayAt ss p).2
          · have hrt : r ∈ presL ss t O := mem_pres.mpr ⟨hrO, by omega, by have := hend p hp; omega⟩
            have h1 : ld ss (p :: O.erase r) t ≤ (p :: (presL ss t O).erase r).length := ld_sub ndO fun x hx => by
              obtain ⟨h1, h2⟩ := mem_pres.mp hx
              rcases List.mem_cons.mp h1 with rfl | h
              · exact List.mem_cons_self
              · obtain ⟨h3, h4⟩ := (memO x).mp h
                exact List.mem_cons_of_mem _ ((List.mem_erase_of_ne h3).mpr (mem_pres.mpr ⟨h4, h2⟩))
            rw [List.length_cons, List.length_erase_of_mem hrt] at h1
            have h2 := hO.ld t
            have h3 := List.length_pos_of_mem hrt
            unfold ld at h1 h2 ⊢
            omega
          · refine Nat.le_trans (ld_sub (M := presL ss t O) ndO fun x hx => ?_) (hO.ld t)
            obtain ⟨h1, h2, h3⟩ := mem_pres.mp hx
            rcases List.mem_cons.mp h1 with rfl | h
            · omega
            · exact mem_pres.mpr ⟨((memO x).mp h).2, h2, h3⟩
      · rw [List.length_cons, List.length_erase_of_mem hrO]
        have := List.length_pos_of_mem hrO
        omega
    · refine ⟨O, hO, hlen, fun x hx hxp => (memE x).mpr ⟨fun z => hrO (z ▸ hx), ?_⟩⟩
      rcases List.mem_append.mp hxp with h | h
      · exact List.mem_append_left _ (hsub x hx h)
      · exact List.mem_append_right _ h
  · rw [if_neg q]
    refine ⟨nd1, sub1, fun t => ?_, fun A hA => ?_⟩
    · by_cases ht : t < (stayAt ss k).1
      · exact early t ht
      · have := ld_sub (M := presL ss (stayAt ss k).1 (S ++ [k])) nd1 fun x hx => late t x (by omega) hx
        omega
    · obtain ⟨O, hO, hlen, hsub⟩ := G.best A hA
      refine ⟨O, hO, hlen, fun x hx hxp => ?_⟩
      rcases List.mem_append.mp hxp with h | h
      · exact List.mem_append_left _ (hsub x hx h)
      · exact List.mem_append_right _ h
theorem gi_all {ss : List (Int × Int)} {c : Nat} (ho : okS ss) : GI ss c (order ss) (bookM ss c) := by
  have key : ∀ (l pre S : List Nat), order ss = pre ++ l → GI ss c pre S → GI ss c (order ss) (l.foldl (stepB ss c) S) := fun l => by
    induction l with
    | nil =>
      intro pre S e G
      rw [List.append_nil] at e
      rw [e]
      exact G
    | cons k l ih =>
      intro pre S e G
      rw [List.foldl_cons]
      exact ih (pre ++ [k]) _ (by rw [e]; simp) (gi_step ho e G)
  refine key (order ss) [] [] rfl ⟨List.nodup_nil, fun x h => (by cases h), fun t => Nat.zero_le _, fun A hA => ⟨A, hA, Nat.le_refl _, fun x _ h => (by cases h)⟩⟩
/-- greedy takes the most -/
theorem book_most {ss : List (Int × Int)} {c : Nat} (ho : okS ss) {A : List Nat} (h : Fe ss c A) : A.length ≤ (bookM ss c).length := by
  have G := gi_all (c := c) ho
  obtain ⟨O, hO, hlen, hsub⟩ := G.best A h
  exact Nat.le_trans hlen (nodup_le hO.nd fun x hx => hsub x hx (order_mem.mpr (hO.lt x hx)))
theorem argmax (f : Nat → Int) : ∀ {l : List Nat}, l ≠ [] → ∃ k ∈ l, ∀ j ∈ l, f j ≤ f k
  | [], h => absurd rfl h
  | [a], _ => ⟨a, by simp, by simp⟩
  | a :: b :: l, _ => by
    obtain ⟨k, hk, hm⟩ := argmax f (l := b :: l) (by simp)
    by_cases h : f a ≤ f k
    · refine ⟨k, List.mem_cons_of_mem _ hk, fun j hj => ?_⟩
      rcases List.mem_cons.mp hj with rfl | hj
      · exact h
      · exact hm j hj
    · refine ⟨a, List.mem_cons_self, fun j hj => ?_⟩
      rcases List.mem_cons.mp hj with rfl | hj
      · exact Int.le_refl _
      · have := hm j hj; omega
theorem toNat_cast {ns : List Int} (h : ∀ x ∈ ns, 0 ≤ x) : castI (ns.map Int.toNat) = ns := by
  unfold castI
  rw [List.map_map]
  conv => rhs; rw [← List.map_id ns]
  exact List.map_congr_left fun x hx => Int.toNat_of_nonneg (h x hx)
/-- what the judges accept is feasible -/
theorem acc_fe {ss : List (Int × Int)} {c : Nat} {bs : List D} (h : isAcc ss c (.list bs) = true) : ∃ A, Fe ss c A ∧ A.length = bs.length := by
  unfold isAcc at h
  dsimp only at h
  rw [Bool.and_eq_true] at h
  obtain ⟨e1, e2, e3⟩ := asc_ints h.1
  generalize hns : intsOf bs = ns at e1 e2 e3 h
  have hpos : ∀ x ∈ ns, 0 ≤ x := fun x hx => (e2 x hx).1
  refine ⟨ns.map Int.toNat, ⟨?_, fun k hk => ?_, fun t => ?_⟩, by rw [e1, List.length_map, List.length_map]⟩
  · rw [List.Nodup, List.pairwise_map]
    exact e3.imp_of_mem fun {a b} ha hb hab z => by
      have h1 := hpos a ha
      have h2 := hpos b hb
      omega
  · obtain ⟨x, hx, rfl⟩ := List.mem_map.mp hk
    have := e2 x hx
    omega
  · by_cases hne : presL ss t (ns.map Int.toNat) = []
    · unfold ld
      rw [hne]
      exact Nat.zero_le _
    · obtain ⟨k, hk, hm⟩ := argmax (fun j => (stayAt ss j).1) hne
      obtain ⟨hk1, hk2, hk3⟩ := mem_pres.mp hk
      obtain ⟨x, hx, rfl⟩ := List.mem_map.mp hk1
      have hacc := List.all_eq_true.mp h.2 x hx
      have hacc := of_decide_eq_true hacc
      have e : (ns.filter fun j => hasM (stayAt ss j.toNat) (stayAt ss x.toNat).1).length = (presL ss (stayAt ss x.toNat).1 (ns.map Int.toNat)).length := by
        unfold presL
        rw [List.filter_map, List.length_map]
        rfl
      rw [e] at hacc
      refine Nat.le_trans ?_ hacc
      unfold ld presL
      rw [← List.countP_eq_length_filter, ← List.countP_eq_length_filter]
      refine List.countP_mono_left fun j hj hp => ?_
      have hjm : j ∈ presL ss t (ns.map Int.toNat) := List.mem_filter.mpr ⟨hj, hp⟩
      obtain ⟨h1, h2, h3⟩ := mem_pres.mp hjm
      have := hm j hjm
      unfold hasM
      simp
      omega
theorem castI_len {ms : List Nat} : (castI ms).length = ms.length := List.length_map _
theorem bookI_len {ss : List (Int × Int)} {c : Nat} : (bookI ss c).length = (bookM ss c).length := by
  unfold bookI
  rw [(sortI_perm _).length_eq, castI_len]
theorem asc_of {lo hi : Int} : ∀ {ns : List Int} {last : Int}, (∀ x ∈ ns, lo ≤ x ∧ x ≤ hi ∧ last < x) → ns.Pairwise (· < ·) → ∃ m, loopM (stepA lo hi) (ns.map .int) last = .go m
  | [], last, _, _ => ⟨last, rfl⟩
  | n :: ns, last, h, hp => by
    have hn := h n List.mem_cons_self
    obtain ⟨p1, p2⟩ := List.pairwise_cons.mp hp
    have e : stepA lo hi last (.int n) = .go n := by
      unfold stepA
      dsimp only
      rw [if_neg (by simp; omega)]
    obtain ⟨m, hm⟩ := asc_of (lo := lo) (hi := hi) (ns := ns) (last := n) (fun x hx => ⟨(h x (List.mem_cons_of_mem _ hx)).1, (h x (List.mem_cons_of_mem _ hx)).2.1, p1 x hx⟩) p2
    refine ⟨m, ?_⟩
    rw [List.map_cons]
    simp only [loopM, e]
    exact hm
/-- greedy's answer is accepted -/
theorem book_acc {ss : List (Int × Int)} {c : Nat} (ho : okS ss) : ascM ((bookI ss c).map .int) 0 ((ss.length : Int) - 1) = true ∧ isAcc ss c (.list ((bookI ss c).map .int)) = true := by
  have G := gi_all (c := c) ho
  have hmem : ∀ x ∈ bookI ss c, ∃ k ∈ bookM ss c, x = ((k : Nat) : Int) := fun x hx => by
    have := (sortI_perm (castI (bookM ss c))).mem_iff.mp hx
    obtain ⟨k, hk, e⟩ := List.mem_map.mp this
    exact ⟨k, hk, e.symm⟩
  have hnd : (bookI ss c).Nodup := (sortI_perm _).nodup_iff.mpr (by
    unfold castI
    rw [List.Nodup, List.pairwise_map]
    exact G.nd.imp fun h z => h (by omega))
  have hp : (bookI ss c).Pairwise (· < ·) := by
    have h1 := sortI_sorted (castI (bookM ss c))
    exact (List.pairwise_and_iff.mpr ⟨h1, hnd⟩).imp fun ⟨a, b⟩ => by omega
  have hr : ∀ x ∈ bookI ss c, (0 : Int) ≤ x ∧ x ≤ (ss.length : Int) - 1 ∧ (0 : Int) - 1 < x := fun x hx => by
    obtain ⟨k, hk, rfl⟩ := hmem x hx
    have := order_mem.mp (G.sub k hk)
    omega
  have h1 : ascM ((bookI ss c).map .int) 0 ((ss.length : Int) - 1) = true := by
    unfold ascM
    obtain ⟨m, e⟩ := asc_of hr hp
    rw [e]
  refine ⟨h1, ?_⟩
  have e2 : intsOf ((bookI ss c).map PyData.int) = bookI ss c := by
    unfold intsOf
    rw [List.map_map]
    exact List.map_id _
  unfold isAcc
  dsimp only
  rw [h1, e2, Bool.true_and]
  unfold accB
  rw [List.all_eq_true]
  intro x hx
  refine decide_eq_true ?_
  have e3 : ((bookI ss c).filter fun j => hasM (stayAt ss j.toNat) (stayAt ss x.toNat).1).length = ld ss (bookM ss c) (stayAt ss x.toNat).1 := by
    have hp2 := (sortI_perm (castI (bookM ss c))).filter (fun j => hasM (stayAt ss j.toNat) (stayAt ss x.toNat).1)
    unfold bookI
    rw [hp2.length_eq]
    unfold castI ld presL
    rw [List.filter_map, List.length_map]
    rfl
  rw [e3]
  exact G.ld _
end K25
namespace K25
open PySem L2 XL
section
variable {T : Tbs} {K : PySem.W.Frag}
def R__law_papers (ds : List D) (r : Res) : Prop := ∃ (ns : List Int) (a : Nat) (ss : List (Int × Int)) (base : List Int), ds = [scr ns, .int (a : Int), sD ss, .list (base.map .int)] ∧ r = .new (papersL base ss.length (bitsL (cellL ns (a + 1)) ss.length) (rowL (cellL ns a) 4 60)) ∧ base.length ≤ 60 ∧ ss.length ≤ 60 ∧ a ≤ 100
theorem w__law_papers : Walks T K N__law_papers (t__law_papers T K R__law_bits R__law_cell R__law_row) R__law_papers := by
  rintro W ds r ⟨ns, a, ss, base, rfl, rfl, hb60, h60, ha⟩
  unfold t__law_papers
  refine ⟨.rn (papersL base ss.length (bitsL (cellL ns (a + 1)) ss.length) (rowL (cellL ns a) 4 60)), ?_, rfl⟩
  obtain ⟨hl, hm⟩ := rowL_ok (cell := cellL ns a) (many := 4) (lim := 60) (by omega)
  generalize hnums : rowL (cellL ns a) 4 60 = nums at hl hm
  generalize hbits : bitsL (cellL ns (a + 1)) ss.length = bits
  have at0 : atI (nums.map PyData.int) 0 = some (.int (atD nums 0)) := ints_at (k := 0) hl (by omega)
  have at1 : atI (nums.map PyData.int) 1 = some (.int (atD nums 1)) := ints_at (k := 1) hl (by omega)
  refine xs_seq (xs_asg (d := .int (ss.length : Int)) (EvV.is (ev_b1 (ev_var rfl) (RA1.l ra_lenL)) (by rw [List.length_map]))) (xs_seq (xs_asg (d := .list (nums.map .int)) ?_) (xs_seq (xs_asg (d := .list (natD bits)) ?_) ?_))
  · rw [← hnums]
    exact EvN.toD (evn_callS (ds := [.int (cellL ns a), .int ((4 : Nat) : Int), .int 60]) (ea_cons (ev_callS (ds := [scr ns, .int (a : Int)]) (by walk_at "ea") ⟨_, _, rfl, rfl, by omega⟩) (ea_cons ev_int (ea_cons ev_int ea_nil))) ⟨_, _, _, rfl, rfl, by omega, by omega, by omega⟩)
  · rw [← hbits]
    refine EvN.toD (evn_callS (ds := [.int (cellL ns (a + 1)), .int (ss.length : Int)]) (ea_cons (ev_callS (ds := [scr ns, .int ((a + 1 : Nat) : Int)]) (ea_cons (ev_var rfl) (ea_cons (EvV.is (ev_op mono_pd (ev_var rfl) ev_int rd_add) (by simp)) ea_nil)) ⟨_, _, rfl, rfl, by omega⟩) (ea_cons (ev_var rfl) ea_nil)) ⟨_, _, rfl, rfl, h60⟩)
  · let r1 : List D → List Slot := fun ps => [.dat (scr ns), .dat (.int (a : Int)), .dat (sD ss), .dat (.list (base.map .int)), .dat (.int (ss.length : Int)), .dat (.list (nums.map .int)), .dat (.list (natD bits)), .own ps, .any, .any, .any, .any]
    refine xs_seq (ρ1 := r1 (papA base ss.length bits)) ?_ (xs_seq (ρ1 := r1 (papA base ss.length bits ++ papB base)) ?_ ?_)
    · refine (xs_asgN (ds := papA base ss.length bits) (evn_lst ?_ (by simp [papA]))).is rfl
      unfold papA
      refine ea_cons (ev_var rfl) (ea_cons (ev_var rfl) (ea_cons (EvN.toD (evn_rng (n := ss.length) (ev_var rfl) rfl (by omega))) (ea_cons (by walk_at "ev") (ea_cons (EvN.toD ?_) (ea_cons (EvN.toD ?_) (ea_cons (EvN.toD (evn_rev (Ev.toL (ev_var rfl)))) (ea_cons (EvN.toD ?_) ea_nil)))))))
      · exact evn_op mono_pl (Ev.toL (ev_var rfl)) (EvN.toL (evn_lst (ds := [.int (ss.length : Int)]) (by walk_at "ea") (by simp))) (rdn_cat (by simp; omega))
      · exact evn_op mono_pl (EvN.toL (evn_lst (ds := [.int (-1)]) (by walk_at "ea") (by simp))) (Ev.toL (ev_var rfl)) (rdn_cat (by simp; omega))
      · refine evn_op mono_pl (Ev.toL (ev_var rfl)) (EvN.toL (evn_sl (lo := some (-1)) (hi := none) (Ev.toL (ev_var rfl)) (eo_some (ev_un ev_int ra_neg)) eo_none)) (rdn_cat ?_)
        have := cut_len (xs := base.map PyData.int) (lo := some (-1)) (hi := none)
        rw [List.length_map] at this
        simp
        omega
    · refine (xs_asgN (ds := papA base ss.length bits ++ papB base) (evn_op mono_pl (evl_own rfl) (EvN.toL (evn_lst (ds := papB base) ?_ (by simp [papB]))) (rdn_cat (by simp [papA, papB])))).is rfl
      unfold papB
      refine ea_cons (ev_b1 (ev_var rfl) (RA1.l ra_tuple)) (ea_cons ev_non (ea_cons ev_str (ea_cons (EvN.toD ?_) ea_nil)))
      refine evn_lcA (l := base) (e := PyData.int) (g := fun k => .bool (decide (k = 1))) (Ev.toL (ev_var rfl)) (by omega) (by simp) fun i k _ => ?_
      apply EvV.is
      · walk_at "ev"
      · rw [eqv_ii]
    · let r2 : List D → List Slot := fun ps => (r1 ps).set 9 (.dat (.list (natD (dropL base ss.length))))
      refine xs_seq (ρ1 := r2 (papA base ss.length bits ++ papB base)) ?_ ?_
      · refine (xs_asg (d := .list (natD (dropL base ss.length))) (EvN.toD (evn_lcR (n := ss.length) (z := (ss.length : Int)) (f := fun k : Nat => !decide ((k : Int) ∈ base)) (g := fun k : Nat => .int (k : Int)) (by walk_at "ea") rfl (by omega) (by simp) (fun k _ => ?_) fun k _ _ => ev_var rfl))).is rfl
        apply EvT.is
        · exact et_test (ev_op mono_pd (ev_var rfl) (ev_var rfl) (RD2.l2 (rd_notin rfl flat_ints)))
        · rw [inD_int]
      · have hdl : (dropL base ss.length).length ≤ 60 := by
          have := List.length_filter_le (fun k : Nat => !decide ((k : Int) ∈ base)) (List.range ss.length)
          rw [List.length_range] at this
          unfold dropL
          omega
        have t1 : EvT T K (tTest (tOp (XL.rGt) (tCB (XL.rLen K) (tCons (tVar 3) (tNil))) (tC (.int 0)))) (r2 (papA base ss.length bits ++ papB base)) (decide (0 < base.length)) := by
          apply EvT.is
          · walk_at "et"
          · rw [List.length_map]
            simp
        unfold papersL
        by_cases q : 0 < base.length
        · rw [if_pos q]
          have hb0 : (0 : Int) < base.length := by omega
          have sp0 : ((spD base nums : Nat) : Int) = atD nums 0 % (base.length : Int) := Int.toNat_of_nonneg (Int.emod_nonneg _ (by omega))
          have spl : spD base nums < base.length := by
            have := Int.emod_lt_of_pos (atD nums 0) hb0
            omega
          let r3 : List D → List Slot := fun ps => (r2 ps).set 10 (.dat (.int (spD base nums : Nat)))
          have take1 : ∀ ρ : List Slot, ρ[3]? = some (.dat (.list (base.map .int))) → ρ[10]? = some (.dat (.int (spD base nums : Nat))) → EvN T K (tSl (XL.rSL K) (tVar 3) (tNoPart) (tPart (tVar 10))) ρ ((base.map PyData.int).take (spD base nums)) := fun ρ h6 h9 =>
            (evn_sl (Ev.toL (ev_var h6)) eo_none (eo_some (ev_var h9))).is cut_take
          have drop1 : ∀ ρ : List Slot, ρ[3]? = some (.dat (.list (base.map .int))) → ρ[10]? = some (.dat (.int (spD base nums : Nat))) → EvN T K (tSl (XL.rSL K) (tVar 3) (tPart (tOp (XL.rAdd K) (tVar 10) (tC (.int 1)))) (tNoPart)) ρ ((base.map PyData.int).drop (spD base nums + 1)) := fun ρ h6 h9 =>
            (evn_sl (hi := none) (Ev.toL (ev_var h6)) (eo_some (n := ((spD base nums + 1 : Nat) : Int)) (EvV.is (ev_op mono_pd (ev_var h9) ev_int rd_add) (by simp))) eo_none).is cut_drop
          have c1 : ∀ ps : List D, ps.length ≤ 1000 → XS T K (He.ga K) W (tDrop (tBM K "list" rAppend (tVar 7) (tCons (tOp (XL.rAdd K) (tSl (XL.rSL K) (tVar 3) (tNoPart) (tPart (tVar 10))) (tSl (XL.rSL K) (tVar 3) (tPart (tOp (XL.rAdd K) (tVar 10) (tC (.int 1)))) (tNoPart))) (tNil)))) (r3 ps) (.nx (r3 (ps ++ [.list ((base.map PyData.int).take (spD base nums) ++ (base.map PyData.int).drop (spD base nums + 1))]))) := fun ps hps =>
            (xs_app rfl (EvN.toD (evn_op mono_pl (EvN.toL (take1 _ rfl rfl)) (EvN.toL (drop1 _ rfl rfl)) (rdn_cat (by simp; omega)))) (by omega)).is rfl
          have c2 : ∀ ps : List D, ps.length ≤ 1000 → XS T K (He.ga K) W (tDrop (tBM K "list" rAppend (tVar 7) (tCons (tOp (XL.rAdd K) (tOp (XL.rAdd K) (tSl (XL.rSL K) (tVar 3) (tNoPart) (tPart (tVar 10))) (tLst (tCons (tOp (rEqD K) (tOp (rIx K) (tVar 3) (tVar 10)) (tC (.int 1))) (tNil)))) (tSl (XL.rSL K) (tVar 3) (tPart (tOp (XL.rAdd K) (tVar 10) (tC (.int 1)))) (tNoPart))) (tNil)))) (r3 ps) (.nx (r3 (ps ++ [.list ((base.map PyData.int).take (spD base nums) ++ [.bool (decide (atD base (spD base nums) = 1))] ++ (base.map PyData.int).drop (spD base nums + 1))]))) := fun ps hps =>
            (xs_app rfl (EvN.toD (evn_op mono_pl (EvN.toL (evn_op mono_pl (EvN.toL (take1 _ rfl rfl)) (EvN.toL (evn_lst (ds := [.bool (decide (atD base (spD base nums) = 1))]) (ea_cons (EvV.is (ev_op mono_pd (ev_op mono_pd (ev_var rfl) (ev_var rfl) (RD2.l1 (rd_ixL (ints_at rfl spl)))) ev_int (rd_eq rfl rfl)) (by rw [eqv_ii])) ea_nil) (by simp))) (rdn_cat (by simp; omega)))) (EvN.toL (drop1 _ rfl rfl)) (rdn_cat (by simp; omega)))) (by omega)).is rfl
          have s1 : XS T K (He.ga K) W (tAsg (tOp (XL.rMod) (tCB (XL.rInt) (tCons (tOp (rIx K) (tVar 5) (tC (.int 0))) (tNil))) (tCB (XL.rLen K) (tCons (tVar 3) (tNil)))) (gName 10)) (r2 (papA base ss.length bits ++ papB base)) (.nx (r3 (papA base ss.length bits ++ papB base))) := by
            refine (xs_asg (d := .int (spD base nums : Nat)) ?_).is rfl
            rw [sp0]
            exact ev_op mono_pd (ev_b1 (ev_op mono_pd (ev_var rfl) ev_int (RD2.l1 (rd_ixL at0))) ra_int) (EvV.is (ev_b1 (ev_var rfl) (RA1.l ra_lenL)) (by rw [List.length_map])) (rd_mod hb0)
          have t2 : ∀ ps : List D, EvT T K (tTest (tOp (XL.rGt) (tCB (XL.rLen K) (tCons (tVar 9) (tNil))) (tC (.int 0)))) (r3 ps) (decide (0 < (dropL base ss.length).length)) := fun ps => by
            apply EvT.is
            · walk_at "et"
            · rw [natD_len]
              simp
          have eC : ∀ z : List D, papA base ss.length bits ++ papB base ++ papC base nums ++ z = papA base ss.length bits ++ papB base ++ [.list ((base.map PyData.int).take (spD base nums) ++ (base.map PyData.int).drop (spD base nums + 1))] ++ [.list ((base.map PyData.int).take (spD base nums) ++ [.bool (decide (atD base (spD base nums) = 1))] ++ (base.map PyData.int).drop (spD base nums + 1))] ++ z := fun z => by
            unfold papC
            simp only [List.append_assoc, List.cons_append, List.nil_append]
          by_cases q2 : 0 < (dropL base ss.length).length
          · rw [if_pos q2]
            have hd0 : (0 : Int) < (dropL base ss.length).length := by omega
            have mm := Int.emod_nonneg (atD nums 1) (b := ((dropL base ss.length).length : Int)) (by omega)
            have mm2 := Int.emod_lt_of_pos (atD nums 1) hd0
            have hmore : atI (natD (dropL base ss.length)) (atD nums 1 % ((dropL base ss.length).length : Int)) = some (.int (moreD base ss.length nums : Nat)) := by
              have hk : (atD nums 1 % ((dropL base ss.length).length : Int)).toNat < (dropL base ss.length).length := by omega
              have e1 : (dropL base ss.length)[(atD nums 1 % ((dropL base ss.length).length : Int)).toNat]? = some (moreD base ss.length nums) := by
                unfold moreD
                rw [List.getElem?_eq_getElem hk]
                rfl
              have := at_map (f := fun k : Nat => PyData.int (k : Int)) e1
              rw [Int.toNat_of_nonneg mm] at this
              exact this
            let r4 : List D → List Slot := fun ps => (r3 ps).set 11 (.dat (.int (moreD base ss.length nums : Nat)))
            refine xs_seq (xs_ifT (t1.is (by simpa using q)) (xs_seq s1 (xs_seq (c1 _ (by simp [papA, papB])) (xs_seq (c2 _ (by simp [papA, papB])) (xs_ifT ((t2 _).is (by simpa using q2)) (xs_seq (ρ1 := r4 _) ((xs_asg (d := .int (moreD base ss.length nums : Nat)) ?_).is rfl) (xs_seq ((xs_app rfl (d := .list ((sortI (base ++ [(moreD base ss.length nums : Int)])).map .int)) ?_ ?_).is rfl) ((xs_app rfl (d := .list ((sortI (base.take (spD base nums) ++ base.drop (spD base nums + 1) ++ [(moreD base ss.length nums : Int)])).map .int)) ?_ ?_).is rfl)))))))) ((xs_retO rfl).is ?_)
            · exact ev_op mono_pd (ev_var rfl) (ev_op mono_pd (ev_b1 (ev_op mono_pd (ev_var rfl) ev_int (RD2.l1 (rd_ixL at1))) ra_int) (EvV.is (ev_b1 (ev_var rfl) (RA1.l ra_lenL)) (by rw [natD_len])) (rd_mod hd0)) (RD2.l1 (rd_ixL hmore))
            · refine EvN.toD (evn_b1 (EvN.toL ((evn_op mono_pl (Ev.toL (ev_var rfl)) (EvN.toL (evn_lst (ds := [.int (moreD base ss.length nums : Nat)]) (by walk_at "ea") (by simp))) (rdn_cat (by simp; omega))).is ?_)) ran_sortI)
              rw [List.map_append]
              rfl
            · simp [papA, papB]
            · refine EvN.toD (evn_b1 (EvN.toL ((evn_op mono_pl (EvN.toL (evn_op mono_pl (EvN.toL (take1 _ rfl rfl)) (EvN.toL (drop1 _ rfl rfl)) (rdn_cat (by simp; omega)))) (EvN.toL (evn_lst (ds := [.int (moreD base ss.length nums : Nat)]) (by walk_at "ea") (by simp))) (rdn_cat (by simp; omega))).is ?_)) ran_sortI)
              rw [List.map_append, List.map_append, List.map_take, List.map_drop]
              rfl
            · simp [papA, papB]
            · rw [eC]
              unfold papE
              simp only [List.append_assoc, List.cons_append, List.nil_append]
          · rw [if_neg q2]
            refine xs_seq (xs_ifT (t1.is (by simpa using q)) (xs_seq s1 (xs_seq (c1 _ (by simp [papA, papB])) (xs_seq (c2 _ (by simp [papA, papB])) (xs_ifF ((t2 _).is (by simpa using q2)) xs_next))))) ((xs_retO rfl).is ?_)
            have := eC []
            rw [List.append_nil, List.append_nil] at this
            rw [this]
        · rw [if_neg q]
          exact xs_seq (xs_ifF (t1.is (by simpa using q)) xs_next) (xs_retO rfl)
end
end K25
namespace K25
open PySem L2 XL
section
variable {T : Tbs} {K : PySem.W.Frag}
def R_law (ds : List D) (r : Res) : Prop := ∃ ns : List Int, ds = [scr ns] ∧ r = .ok (.bool true)
theorem w_law : Walks T K N_law (t_law T K R__law_spoilt R__law_papers R__law_is_accepted R_is_accepted R__law_subsets R_most_bookings R__law_members R__law_booked R__law_load R__law_stays R__law_row R__law_cell) R_law := by
  rintro W ds r ⟨ns, rfl, rfl⟩
  unfold t_law
  refine ⟨.rt (.bool true), ?_, rfl⟩
  obtain ⟨hl1, hm1⟩ := rowL_ok (cell := cellL ns 0) (many := 4) (lim := 61) (by omega)
  generalize hsh : rowL (cellL ns 0) 4 61 = shp at hl1 hm1
  have b0 := hm1 _ (atD_mem (k := 0) (by omega))
  have b2 := hm1 _ (atD_mem (k := 2) (by omega))
  have b3 := hm1 _ (atD_mem (k := 3) (by omega))
  have s0 : atI (shp.map PyData.int) 0 = some (.int (atD shp 0)) := ints_at (k := 0) hl1 (by omega)
  have s1 : atI (shp.map PyData.int) 1 = some (.int (atD shp 1)) := ints_at (k := 1) hl1 (by omega)
  have s2 : atI (shp.map PyData.int) 2 = some (.int (atD shp 2)) := ints_at (k := 2) hl1 (by omega)
  have s3 : atI (shp.map PyData.int) 3 = some (.int (atD shp 3)) := ints_at (k := 3) hl1 (by omega)
  obtain ⟨many, hmanyE, hmany60⟩ : ∃ many : Nat, ((many : Nat) : Int) = (if atD shp 1 % 3 = 0 then atD shp 0 % 9 else if atD shp 1 % 8 = 1 then 60 else atD shp 0) ∧ many ≤ 60 := by
    refine ⟨(if atD shp 1 % 3 = 0 then atD shp 0 % 9 else if atD shp 1 % 8 = 1 then 60 else atD shp 0).toNat, ?_, ?_⟩
    · split
      · omega
      · split <;> omega
    · split
      · omega
      · split <;> omega
  generalize hss : staysL ns 1 many = ss
  have hlen : ss.length = many := by rw [← hss]; exact staysL_len
  have ho : okS ss := by rw [← hss]; exact staysL_ok
  have h60 : ss.length ≤ 60 := by omega
  have htop := top_le (ss := ss)
  generalize htp : topL ss = top at htop
  obtain ⟨c, hcE, hc60⟩ : ∃ c : Nat, ((c : Nat) : Int) = (if atD shp 3 % 4 = 0 then (if atD shp 3 / 4 % 2 = 0 then atD shp 2 else 60) else atD shp 2 % (top + 1)) ∧ c ≤ 60 := by
    have m1 := Int.emod_nonneg (atD shp 2) (b := top + 1) (by omega)
    have m2 := Int.emod_lt_of_pos (atD shp 2) (b := top + 1) (by omega)
    refine ⟨(if atD shp 3 % 4 = 0 then (if atD shp 3 / 4 % 2 = 0 then atD shp 2 else 60) else atD shp 2 % (top + 1)).toNat, ?_, ?_⟩
    · split
      · split <;> omega
      · omega
    · split
      · split <;> omega
      · omega
  have shS := (shp_prs (n := 0) (l := ss)).ok
  have seS : PyData.eqv (sD ss) (sD ss) = true := eqv_self (shp_prs (n := 0) (l := ss))
  obtain ⟨acc1, acc2⟩ := book_acc (c := c) ho
  have hbl : (bookI ss c).length ≤ 60 := by
    rw [bookI_len]
    have G := gi_all (c := c) ho
    have h := nodup_le (m := List.range ss.length) G.nd fun x hx => List.mem_range.mpr (order_mem.mp (G.sub x hx))
    rw [List.length_range] at h
    omega
  have shB := (shp_ints (n := 0) (ns := bookI ss c)).ok
  have seB : PyData.eqv (.list ((bookI ss c).map .int)) (.list ((bookI ss c).map .int)) = true := eqv_self (shp_ints (n := 0))
  have R1 : R_most_bookings [sD ss, .int (c : Int)] (.new ((bookI ss c).map .int)) := ⟨_, _, rfl, rfl, .inr ⟨ss, c, rfl, rfl, ho, h60, hc60, rfl⟩⟩
  refine xs_seq (xs_asg (d := .list (shp.map .int)) ?_) (xs_seq (xs_asg (d := .int (atD shp 0)) (ev_b1 (ev_op mono_pd (ev_var rfl) ev_int (RD2.l1 (rd_ixL s0))) ra_int)) ?_)
  · rw [← hsh]
    exact EvN.toD (evn_callS (ds := [.int (cellL ns 0), .int ((4 : Nat) : Int), .int 61]) (ea_cons (ev_callS (ds := [scr ns, .int ((0 : Nat) : Int)]) (ea_cons (ev_var rfl) (ea_cons ev_int ea_nil)) ⟨_, _, rfl, rfl, by omega⟩) (ea_cons ev_int (ea_cons ev_int ea_nil))) ⟨_, _, _, rfl, rfl, by omega, by omega, by omega⟩)
  refine xs_seq (ρ1 := [.dat (scr ns), .dat (.list (shp.map .int)), .dat (.int (many : Int)), .any, .any, .any, .any, .any, .any, .any, .any, .any, .any, .any]) ?_ ?_
  · have t1 : EvT T K (tTest (tOp (rEqD K) (tOp (XL.rMod) (tCB (XL.rInt) (tCons (tOp (rIx K) (tVar 1) (tC (.int 1))) (tNil))) (tC (.int 3))) (tC (.int 0)))) [.dat (scr ns), .dat (.list (shp.map .int)), .dat (.int (atD shp 0)), .any, .any, .any, .any, .any, .any, .any, .any, .any, .any, .any] (decide (atD shp 1 % 3 = 0)) := by
      apply EvT.is
      · walk_at "et"
      · rw [eqv_ii]
    have t2 : EvT T K (tTest (tOp (rEqD K) (tOp (XL.rMod) (tCB (XL.rInt) (tCons (tOp (rIx K) (tVar 1) (tC (.int 1))) (tNil))) (tC (.int 8))) (tC (.int 1)))) [.dat (scr ns), .dat (.list (shp.map .int)), .dat (.int (atD shp 0)), .any, .any, .any, .any, .any, .any, .any, .any, .any, .any, .any] (decide (atD shp 1 % 8 = 1)) := by
      apply EvT.is
      · walk_at "et"
      · rw [eqv_ii]
    rw [hmanyE]
    by_cases q1 : atD shp 1 % 3 = 0
    · rw [if_pos q1]
      exact xs_ifT (t1.is (by simpa using q1)) ((xs_asg (d := .int (atD shp 0 % 9)) (ev_op mono_pd (ev_b1 (ev_op mono_pd (ev_var rfl) ev_int (RD2.l1 (rd_ixL s0))) ra_int) ev_int (rd_mod (by omega)))).is rfl)
    · rw [if_neg q1]
      refine xs_ifF (t1.is (by simpa using q1)) ?_
      by_cases q2 : atD shp 1 % 8 = 1
      · rw [if_pos q2]
        exact xs_ifT (t2.is (by simpa using q2)) ((xs_asg (d := .int 60) ev_int).is rfl)
      · rw [if_neg q2]
        exact xs_ifF (t2.is (by simpa using q2)) xs_next
  refine xs_seq (xs_asg (d := sD ss) (EvN.toD (hss ▸ evn_callS (ds := [scr ns, .int ((1 : Nat) : Int), .int (many : Int)]) (ea_cons (ev_var rfl) (ea_cons ev_int (ea_cons (ev_var rfl) ea_nil))) ⟨_, _, _, rfl, rfl, by omega, by omega⟩))) ?_
  refine xs_seq (xs_asg (d := .int top) ?_) (xs_seq (xs_asg (d := .int (atD shp 2 % (top + 1))) (ev_op mono_pd (ev_b1 (ev_op mono_pd (ev_var rfl) ev_int (RD2.l1 (rd_ixL s2))) ra_int) (ev_op mono_pd (ev_var rfl) ev_int rd_add) (rd_mod (by omega)))) ?_)
  · rw [← htp]
    refine ev_b1 (EvN.toL ?_) (ra_maxL3 (ns := 0 :: ss.map fun s => loadL ss s.1) (by simp))
    apply EvN.is
    · refine evn_op mono_pl (EvN.toL (evn_lst (ds := [.int 0]) (by walk_at "ea") (by simp))) (EvN.toL (evn_lcA (l := ss) (e := pairD) (g := fun s => .int (loadL ss s.1)) (Ev.toL (ev_var rfl)) (by omega) (by simp) fun i s _ => ?_)) (rdn_cat (by simp; omega))
      exact ev_call (ds := [sD ss, .int s.1]) (ea_cons (ev_var rfl) (ea_cons (by walk_at "ev") ea_nil)) ⟨_, _, rfl, rfl, by omega⟩
    · simp
  refine xs_seq (ρ1 := [.dat (scr ns), .dat (.list (shp.map .int)), .dat (.int (many : Int)), .dat (sD ss), .dat (.int top), .any, .dat (.int (c : Int)), .any, .any, .any, .any, .any, .any, .any]) ?_ ?_
  · have t1 : EvT T K (tTest (tOp (rEqD K) (tOp (XL.rMod) (tCB (XL.rInt) (tCons (tOp (rIx K) (tVar 1) (tC (.int 3))) (tNil))) (tC (.int 4))) (tC (.int 0)))) [.dat (scr ns), .dat (.list (shp.map .int)), .dat (.int (many : Int)), .dat (sD ss), .dat (.int top), .any, .dat (.int (atD shp 2 % (top + 1))), .any, .any, .any, .any, .any, .any, .any] (decide (atD shp 3 % 4 = 0)) := by
      apply EvT.is
      · walk_at "et"
      · rw [eqv_ii]
    rw [hcE]
    by_cases q1 : atD shp 3 % 4 = 0
    · rw [if_pos q1]
      have hi : atI [PyData.int (atD shp 2), PyData.int 60] (atD shp 3 / 4 % 2) = some (.int (if atD shp 3 / 4 % 2 = 0 then atD shp 2 else 60)) := by
        have : atD shp 3 / 4 % 2 = 0 ∨ atD shp 3 / 4 % 2 = 1 := by omega
        rcases this with h | h
        · rw [h, if_pos rfl]; rfl
        · rw [h, if_neg (by decide)]; rfl
      refine xs_ifT (t1.is (by simpa using q1)) ((xs_asg (d := .int (if atD shp 3 / 4 % 2 = 0 then atD shp 2 else 60)) ?_).is rfl)
      refine ev_op mono_pl (EvN.toL (evn_lst (ds := [.int (atD shp 2), .int 60]) (ea_cons (ev_b1 (ev_op mono_pd (ev_var rfl) ev_int (RD2.l1 (rd_ixL s2))) ra_int) (ea_cons ev_int ea_nil)) (by simp))) (ev_op mono_pd (ev_b1 (ev_op mono_pd (ev_op mono_pd (ev_var rfl) ev_int (RD2.l1 (rd_ixL s3))) ev_int (rd_div (by omega) (by omega))) ra_int) ev_int (rd_mod (by omega))) (rd_ixL hi)
    · rw [if_neg q1]
      exact xs_ifF (t1.is (by simpa using q1)) xs_next
  -- due, handed, told
  refine xs_seq (xs_asg (d := .list ((bookI ss c).map .int)) (EvN.toD (evn_callS (ds := [sD ss, .int (c : Int)]) (by walk_at "ea") ⟨_, _, rfl, rfl, by omega⟩))) (xs_seq (xs_asg (d := sD ss) (EvN.toD (evn_b1 (Ev.toL (ev_var rfl)) ran_list))) (xs_seq (xs_asgN (ds := (bookI ss c).map .int) (evn_callS (ds := [sD ss, .int (c : Int)]) (by walk_at "ea") R1)) ?_))
  refine xs_else (et_orF ?_ (et_orF ?_ (et_orF ?_ ?_))) (xs_seq (xs_app rfl ev_int (by simp; omega)) (xs_else ?_ ?_))
  · apply EvT.is
    · exact et_test (ev_op mono_pd (ev_var rfl) (ev_var rfl) (rd_ne shS shS))
    · rw [seS]; rfl
  · apply EvT.is
    · exact et_not (et_B (ev_callSH (ds := [.list ((bookI ss c).map .int), .int (many : Int)]) (eh_consL (evl_own rfl) (eh_cons (ev_var rfl) eh_nil)) ⟨_, _, rfl, rfl, rfl⟩ rfl))
    · show (!ascM ((bookI ss c).map .int) 0 ((many : Int) - 1)) = false
      rw [← hlen, acc1]
      rfl
  · apply EvT.is
    · exact et_test (ev_op mono_pl (evl_own rfl) (ev_var rfl) (rd_neLD shB shB))
    · rw [seB]; rfl
  · apply EvT.is
    · exact et_not (et_B (ev_callSH (ds := [sD ss, .int (c : Int), .list ((bookI ss c).map .int)]) (eh_cons (ev_var rfl) (eh_cons (ev_var rfl) (eh_consL (evl_own rfl) eh_nil))) ⟨_, _, _, rfl, rfl, by omega, rfl, fun bs e => by cases e; simp; omega⟩ rfl))
    · rw [acc2]; rfl
  · apply EvT.is
    · exact et_test (ev_op mono_pl (EvN.toL (evn_callS (ds := [sD ss, .int (c : Int)]) (by walk_at "ea") R1)) (ev_var rfl) (rd_neLD shB shB))
    · rw [seB]; rfl
  -- the subsets
  let r0 : Unit → List Slot := fun _ => [.dat (scr ns), .any, .dat (.int (many : Int)), .dat (sD ss), .any, .any, .dat (.int (c : Int)), .dat (.list ((bookI ss c).map .int)), .dat (sD ss), .any, .any, .any, .any, .any]
  refine xs_seq (ρ1 := r0 ()) (xs_pre (ρ1 := r0 ()) (by walk_at "wk") ?_) ?_
  · have t1 : EvT T K (tTest (tOp (XL.rLt) (tVar 2) (tC (.int 9)))) (r0 ()) (decide ((many : Int) < 9)) := by walk_at "et"
    by_cases q : (many : Int) < 9
    · refine xs_ifT (t1.is (by simpa using q)) ?_
      have e0 : lsOut r0 [] (loopM (fun (_ : Unit) (_ : List Nat) => LS.go ()) (subsL many) ()) = .nx (r0 ()) := by
        rw [loopM_fold (f := fun _ _ => ()) fun _ _ _ => rfl]
        rfl
      refine XS.is (xs_for (r := r0) (ρe := []) (s0 := ()) (step := fun (_ : Unit) (_ : List Nat) => LS.go ()) (e := fun m : List Nat => .list (natD m)) (l := subsL many) (I := fun _ _ => True) (EvN.toD (evn_callS (ds := [.int (many : Int)]) (by walk_at "ea") ⟨_, rfl, rfl, by omega⟩)) (by walk_at "wk") trivial fun i _ m hm _ => ?_) e0
      refine ⟨_, xs_ifF ?_ xs_next, by show Wk _ _; walk_at "wk", fun _ _ => trivial⟩
      have t2 : EvT T K (tTest (tOp (XL.rGt) (tCB (XL.rLen K) (tCons (tVar 10) (tNil))) (tCB (XL.rLen K) (tCons (tVar 7) (tNil))))) ((r0 ()).set 10 (.dat (.list (natD m)))) (decide (m.length > (bookI ss c).length)) := by
        apply EvT.is
        · walk_at "et"
        · rw [natD_len, List.length_map]
          simp
      by_cases q2 : m.length > (bookI ss c).length
      · refine et_andT (t2.is (by simpa using q2)) ?_
        have hlm : m.length ≤ 1000 := by
          have key : ∀ n, ∀ x ∈ subsL n, x.length ≤ n := fun n => by
            unfold subsL
            have := fold_inv (f := fun (f : List (List Nat)) (k : Nat) => f ++ f.map (· ++ [k])) (I := fun i f => ∀ x ∈ f, x.length ≤ i) (fun i f k h x hx => by
              rcases List.mem_append.mp hx with hx | hx
              · exact Nat.le_succ_of_le (h x hx)
              · obtain ⟨y, hy, rfl⟩ := List.mem_map.mp hx
                have := h y hy
                simp
                exact this) (l := List.range n) (s := [[]]) (i := 0) (by simp)
            rw [List.length_range, Nat.zero_add] at this
            exact this
          have := key many m (List.mem_of_getElem? hm)
          omega
        apply EvT.is
        · exact et_B (ev_callS (d := .bool (isAcc ss c (.list (natD m)))) (ds := [sD ss, .int (c : Int), .list (natD m)]) (by walk_at "ea") ⟨_, _, _, rfl, rfl, by omega, rfl, fun bs e => by cases e; rw [natD_len]; exact hlm⟩)
        · cases h : isAcc ss c (.list (natD m)) with
          | false => rfl
          | true =>
            obtain ⟨A, hA, hAl⟩ := acc_fe h
            have := book_most ho hA
            rw [natD_len] at hAl
            rw [bookI_len] at q2
            omega
      · exact et_andF (t2.is (by simpa using q2))
    · exact xs_ifF (t1.is (by simpa using q)) xs_next
  -- the papers
  have hok := ok_papers (base := bookI ss c) (n := ss.length) (bits := bitsL (cellL ns (4 + 1)) ss.length) (nums := rowL (cellL ns 4) 4 60) hbl h60 (by
    have := List.length_filter_le (fun k => decide (atD (rowL (cellL ns (4 + 1)) 60 60) k % 6 ≤ atD (rowL (cellL ns (4 + 1)) 60 60) 59 % 5)) (List.range ss.length)
    rw [List.length_range] at this
    unfold bitsL
    omega)
  have e0 : lsOut r0 [] (loopM (fun (_ : Unit) (_ : D) => LS.go ()) (papersL (bookI ss c) ss.length (bitsL (cellL ns (4 + 1)) ss.length) (rowL (cellL ns 4) 4 60)) ()) = .nx (r0 ()) := by
    rw [loopM_fold (f := fun _ _ => ()) fun _ _ _ => rfl]
    rfl
  refine xs_seq (XS.is (xs_for (r := r0) (ρe := []) (s0 := ()) (step := fun (_ : Unit) (_ : D) => LS.go ()) (e := fun d : D => d) (l := papersL (bookI ss c) ss.length (bitsL (cellL ns (4 + 1)) ss.length) (rowL (cellL ns 4) 4 60)) (I := fun _ _ => True) ?_ (by walk_at "wk") trivial fun i _ d hd _ => ?_) e0) (xs_ret ?_)
  · apply EvN.toD
    apply EvN.is
    · exact evn_callS (ds := [scr ns, .int ((4 : Nat) : Int), sD ss, .list ((bookI ss c).map .int)]) (ea_cons (ev_var rfl) (ea_cons ev_int (ea_cons (ev_var rfl) (ea_cons (ev_var rfl) ea_nil)))) ⟨_, _, _, _, rfl, rfl, hbl, h60, by omega⟩
    · simp
  · obtain ⟨hd1, hd2, hd3⟩ := hok d (List.mem_of_getElem? hd)
    have shd := hd1.ok
    have g1 : XS T K (He.ga K) W (tIfS (tB (tCB (rIsi K) (tCons (tVar 11) (tCons (tC (.ty "list")) tNil)))) (tAsg (tCB (XL.rLst K) (tCons (tVar 11) (tNil))) (gName 12)) (tNext)) (((r0 ()).set 11 (.dat d)).set 12 (.dat d)) (.nx (((r0 ()).set 11 (.dat d)).set 12 (.dat d))) := by
      cases d with
      | dict kv => cases hd2
      | list ds =>
        refine xs_ifT ?_ ((xs_asg (d := .list ds) (EvN.toD (evn_b1 (Ev.toL (ev_var rfl)) ran_list))).is rfl)
        walk_at "etd"
      | _ =>
        refine xs_ifF ?_ xs_next
        walk_at "etd"
    refine ⟨_, xs_seq (xs_asg (ev_var rfl)) (xs_seq g1 (xs_seq (xs_asg (d := .bool (isAcc ss c d)) (ev_callS (ds := [sD ss, .int (c : Int), d]) (by walk_at "ea") ⟨_, _, _, rfl, rfl, hd2, .inr ⟨ss, c, rfl, rfl, ho, h60, hc60, hd3, rfl⟩⟩)) (xs_else (et_orF ?_ ?_) (xs_ifF (et_orF ?_ ?_) xs_next)))), by show Wk _ _; walk_at "wk", fun _ _ => trivial⟩
    · walk_at "etd"
    · apply EvT.is
      · exact et_test (ev_op mono_pd (ev_var rfl) (ev_callS (d := .bool (isAcc ss c d)) (ds := [sD ss, .int (c : Int), d]) (by walk_at "ea") ⟨_, _, _, rfl, rfl, by omega, hd2, hd3⟩) (rd_ne rfl rfl))
      · cases isAcc ss c d <;> rfl
    · apply EvT.is
      · exact et_test (ev_op mono_pd (ev_var rfl) (ev_var rfl) (rd_ne shd shd))
      · rw [eqv_self hd1]; rfl
    · apply EvT.is
      · exact et_test (ev_op mono_pd (ev_var rfl) (ev_var rfl) (rd_ne shS shS))
      · rw [seS]; rfl
  · exact ev_callS (ds := [scr ns, .int ((6 : Nat) : Int), sD ss, .int (c : Int)]) (ea_cons (ev_var rfl) (ea_cons ev_int (ea_cons (ev_var rfl) (ea_cons (ev_var rfl) ea_nil)))) ⟨_, _, _, _, rfl, rfl, ho, h60, hc60, by omega⟩
end
end K25
namespace K25
open PySem L2 XL PyProof.Rows
theorem nv_of {K : PySem.W.Frag} {h : Heap} {mg : Str → Option Value} (X : K.In h) (G : h.Ns mainGlobals mg) (c : He.SaysD fa fn K) (hx : XL.exAllB K exs = true) : Nv K mg where
  ex := hx
  g_is_integer := He.glo_ok X G (c.fact 0 (f := .glo "is_integer") rfl)
  g_in_range := He.glo_ok X G (c.fact 1 (f := .glo "in_range") rfl)
  g_is_ascending := He.glo_ok X G (c.fact 2 (f := .glo "is_ascending") rfl)
  g_need_range := He.glo_ok X G (c.fact 3 (f := .glo "need_range") rfl)
  g_need_list := He.glo_ok X G (c.fact 4 (f := .glo "need_list") rfl)
  g_is_time := He.glo_ok X G (c.fact 5 (f := .glo "is_time") rfl)
  g_is_stay := He.glo_ok X G (c.fact 6 (f := .glo "is_stay") rfl)
  g_need_stay := He.glo_ok X G (c.fact 7 (f := .glo "need_stay") rfl)
  g_need_stays := He.glo_ok X G (c.fact 8 (f := .glo "need_stays") rfl)
  g_has_moment := He.glo_ok X G (c.fact 9 (f := .glo "has_moment") rfl)
  g_need_shared := He.glo_ok X G (c.fact 10 (f := .glo "need_shared") rfl)
  g_stay_order := He.glo_ok X G (c.fact 11 (f := .glo "stay_order") rfl)
  g_accepted := He.glo_ok X G (c.fact 12 (f := .glo "accepted") rfl)
  g_most_bookings := He.glo_ok X G (c.fact 13 (f := .glo "most_bookings") rfl)
  g_is_accepted := He.glo_ok X G (c.fact 14 (f := .glo "is_accepted") rfl)
  g__law_cell := He.glo_ok X G (c.fact 15 (f := .glo "_law_cell") rfl)
  g__law_row := He.glo_ok X G (c.fact 16 (f := .glo "_law_row") rfl)
  g__law_stays := He.glo_ok X G (c.fact 17 (f := .glo "_law_stays") rfl)
  g__law_whole := He.glo_ok X G (c.fact 18 (f := .glo "_law_whole") rfl)
  g__law_holds := He.glo_ok X G (c.fact 19 (f := .glo "_law_holds") rfl)
  g__law_load := He.glo_ok X G (c.fact 20 (f := .glo "_law_load") rfl)
  g__law_members := He.glo_ok X G (c.fact 21 (f := .glo "_law_members") rfl)
  g__law_booked := He.glo_ok X G (c.fact 22 (f := .glo "_law_booked") rfl)
  g__law_is_accepted := He.glo_ok X G (c.fact 23 (f := .glo "_law_is_accepted") rfl)
  g__law_bits := He.glo_ok X G (c.fact 24 (f := .glo "_law_bits") rfl)
  g__law_papers := He.glo_ok X G (c.fact 25 (f := .glo "_law_papers") rfl)
  g__law_subsets := He.glo_ok X G (c.fact 26 (f := .glo "_law_subsets") rfl)
  g__law_bad_stays := He.glo_ok X G (c.fact 27 (f := .glo "_law_bad_stays") rfl)
  g__law_said := He.glo_ok X G (c.fact 28 (f := .glo "_law_said") rfl)
  g__law_spoilt := He.glo_ok X G (c.fact 29 (f := .glo "_law_spoilt") rfl)
  g_law := He.glo_ok X G (c.fact 30 (f := .glo "law") rfl)
  g_BankError := He.glo_ok X G (c.fact 31 (f := .glo "BankError") rfl)
  g_BadValue := He.glo_ok X G (c.fact 32 (f := .glo "BadValue") rfl)
  g_TooMany := He.glo_ok X G (c.fact 33 (f := .glo "TooMany") rfl)
  i_LATEST := He.int_ok X G (c.fact 34 (f := .int "LATEST" 1000000) rfl)
  i_MOST_STAYS := He.int_ok X G (c.fact 35 (f := .int "MOST_STAYS" 60) rfl)
  i_MOST_COUNT := He.int_ok X G (c.fact 36 (f := .int "MOST_COUNT" 60) rfl)
  b_ValueError := He.free_ok X G (c.fact 37 (f := .free "ValueError") rfl)
  b_abs := He.free_ok X G (c.fact 38 (f := .free "abs") rfl)
  b_all := He.free_ok X G (c.fact 39 (f := .free "all") rfl)
  b_bool := He.free_ok X G (c.fact 40 (f := .free "bool") rfl)
  b_int := He.free_ok X G (c.fact 41 (f := .free "int") rfl)
  b_isinstance := He.free_ok X G (c.fact 42 (f := .free "isinstance") rfl)
  b_len := He.free_ok X G (c.fact 43 (f := .free "len") rfl)
  b_list := He.free_ok X G (c.fact 44 (f := .free "list") rfl)
  b_max := He.free_ok X G (c.fact 45 (f := .free "max") rfl)
  b_min := He.free_ok X G (c.fact 46 (f := .free "min") rfl)
  b_range := He.free_ok X G (c.fact 47 (f := .free "range") rfl)
  b_sorted := He.free_ok X G (c.fact 48 (f := .free "sorted") rfl)
  b_tuple := He.free_ok X G (c.fact 49 (f := .free "tuple") rfl)
def tbs (K : PySem.W.Frag) : Tbs := [((He.cT K ("stay_order", none)).2, (envOfC "stay_order" (defScope s_stay_order) 0 0 .none).qual ++ "<lambda>"), ((He.cT K ("accepted", none)).2, (envOfC "accepted" (defScope s_accepted) 0 0 .none).qual ++ "<lambda>")]
theorem tbs_hu {K : PySem.W.Frag} (hn : (((tf.map (He.cT K)).map (·.2)).Nodup)) {P : Addr} {q : Str} (h : (P, q) ∈ tbs K) : ∀ p ∈ tbs K, p.1 = P → p.2 = q := by
  have hn' : ((tbs K).map (·.1)).Nodup := hn
  have key : ∀ l : Tbs, (l.map (·.1)).Nodup → (P, q) ∈ l → ∀ p ∈ l, p.1 = P → p.2 = q := fun l => by
    induction l with
    | nil => intro _ h; cases h
    | cons a l ih =>
      intro hn h p hp e
      rw [List.map_cons] at hn
      obtain ⟨h1, h2⟩ := List.nodup_cons.mp hn
      rcases List.mem_cons.mp h with ha | h'
      · rcases List.mem_cons.mp hp with hb | hp'
        · rw [hb, ← ha]
        · exact absurd (List.mem_map.mpr ⟨p, hp', by rw [e, ← ha]⟩) h1
      · rcases List.mem_cons.mp hp with hb | hp'
        · exact absurd (List.mem_map.mpr ⟨(P, q), h', by rw [← hb, e]⟩) h1
        · exact ih h2 h' p hp' e
  exact key _ hn' h
theorem tbs_in {K : PySem.W.Frag} : ∀ t ∈ tbs K, ∃ p ∈ tf.map (He.cT K), p.2 = t.1 := by simp [tbs, tf]
section
variable {P : Program} {w : World} {K : PySem.W.Frag} {mg : Str → Option Value} {base : Heap}
theorem law_ok (V : Nv K mg) (c : He.SaysD fa fn K) (hn : (((tf.map (He.cT K)).map (·.2)).Nodup)) (TBs : ∀ p ∈ tf.map (He.cT K), LamX.TabB base mg p.1 p.2) {fd : FuncData} (F : FunD K "law" "law" (defArgs s_law) (defBody s_law) (defScope s_law) [] [] (He.fAd K ("law", none)) fd) :
    FnOk P w K mg base (L2.CX P w) 11 (He.fAd K ("law", none)) fd ["script"] (SpX (tbs K) K (He.ga K) R_law) := by
  have TB_stay_order : LamX.TabB base mg (He.cT K ("stay_order", none)).1 (He.cT K ("stay_order", none)).2 := TBs _ (by simp [tf])
  have hmT_stay_order : ((He.cT K ("stay_order", none)).2, (envOfC "stay_order" (defScope s_stay_order) 0 0 .none).qual ++ "<lambda>") ∈ tbs K := by simp [tbs]
  have hu_stay_order := tbs_hu hn hmT_stay_order
  have TB_accepted : LamX.TabB base mg (He.cT K ("accepted", none)).1 (He.cT K ("accepted", none)).2 := TBs _ (by simp [tf])
  have hmT_accepted : ((He.cT K ("accepted", none)).2, (envOfC "accepted" (defScope s_accepted) 0 0 .none).qual ++ "<lambda>") ∈ tbs K := by simp [tbs]
  have hu_accepted := tbs_hu hn hmT_accepted
  have F_BadValue_init := fo_BadValue_init (P := P) (w := w) (mg := mg) (base := base) (c.def_ 31 (d := d_BadValue___init__) rfl)
  have F_TooMany_init := fo_TooMany_init (P := P) (w := w) (mg := mg) (base := base) (c.def_ 32 (d := d_TooMany___init__) rfl)
  have F_is_integer := fo_is_integer (P := P) (w := w) (base := base) (T := tbs K) (c.def_ 0 (d := d_is_integer) rfl) V (by walk_at "len") w_is_integer
  have F_in_range := fo_in_range (P := P) (w := w) (base := base) (T := tbs K) (c.def_ 1 (d := d_in_range) rfl) V F_is_integer (by walk_at "len") w_in_range
  have F_is_ascending := fo_is_ascending (P := P) (w := w) (base := base) (T := tbs K) (c.def_ 2 (d := d_is_ascending) rfl) V F_in_range (by walk_at "len") w_is_ascending
  have F_need_range := fo_need_range (P := P) (w := w) (base := base) (T := tbs K) (c.def_ 3 (d := d_need_range) rfl) V F_in_range F_BadValue_init (by walk_at "len") (w_need_range V.ex)
  have F_need_list := fo_need_list (P := P) (w := w) (base := base) (T := tbs K) (c.def_ 4 (d := d_need_list) rfl) V F_TooMany_init F_BadValue_init (by walk_at "len") (w_need_list V.ex)
  have F_is_time := fo_is_time (P := P) (w := w) (base := base) (T := tbs K) (c.def_ 5 (d := d_is_time) rfl) V F_in_range (by walk_at "len") w_is_time
  have F_is_stay := fo_is_stay (P := P) (w := w) (base := base) (T := tbs K) (c.def_ 6 (d := d_is_stay) rfl) V F_is_time (by walk_at "len") w_is_stay
  have F_need_stay := fo_need_stay (P := P) (w := w) (base := base) (T := tbs K) (c.def_ 7 (d := d_need_stay) rfl) V F_is_stay F_BadValue_init (by walk_at "len") (w_need_stay V.ex)
  have F_need_stays := fo_need_stays (P := P) (w := w) (base := base) (T := tbs K) (c.def_ 8 (d := d_need_stays) rfl) V F_need_stay F_need_list (by walk_at "len") w_need_stays
  have F_has_moment := fo_has_moment (P := P) (w := w) (base := base) (T := tbs K) (c.def_ 9 (d := d_has_moment) rfl) V (by walk_at "len") w_has_moment
  have F_need_shared := fo_need_shared (P := P) (w := w) (base := base) (T := tbs K) (c.def_ 10 (d := d_need_shared) rfl) V F_need_range F_need_stays (by walk_at "len") w_need_shared
  have F_stay_order := fo_stay_order (P := P) (w := w) (base := base) (T := tbs K) (c.def_ 11 (d := d_stay_order) rfl) V TB_stay_order hmT_stay_order hu_stay_order (by walk_at "len") w_stay_order
  have F_accepted := fo_accepted (P := P) (w := w) (base := base) (T := tbs K) (c.def_ 12 (d := d_accepted) rfl) V F_stay_order F_has_moment TB_accepted hmT_accepted hu_accepted (by walk_at "len") w_accepted
  have F_most_bookings := fo_most_bookings (P := P) (w := w) (base := base) (T := tbs K) (c.def_ 13 (d := d_most_bookings) rfl) V F_accepted F_need_shared (by walk_at "len") w_most_bookings
  have F_is_accepted := fo_is_accepted (P := P) (w := w) (base := base) (T := tbs K) (c.def_ 14 (d := d_is_accepted) rfl) V F_has_moment F_is_ascending F_need_shared (by walk_at "len") w_is_accepted
  have F__law_cell := fo__law_cell (P := P) (w := w) (base := base) (T := tbs K) (c.def_ 15 (d := d__law_cell) rfl) V (by walk_at "len") w__law_cell
  have F__law_row := fo__law_row (P := P) (w := w) (base := base) (T := tbs K) (c.def_ 16 (d := d__law_row) rfl) V (by walk_at "len") w__law_row
  have F__law_stays := fo__law_stays (P := P) (w := w) (base := base) (T := tbs K) (c.def_ 17 (d := d__law_stays) rfl) V F__law_row F__law_cell (by walk_at "len") w__law_stays
  have F__law_whole := fo__law_whole (P := P) (w := w) (base := base) (T := tbs K) (c.def_ 18 (d := d__law_whole) rfl) V (by walk_at "len") w__law_whole
  have F__law_holds := fo__law_holds (P := P) (w := w) (base := base) (T := tbs K) (c.def_ 19 (d := d__law_holds) rfl) V (by walk_at "len") w__law_holds
  have F__law_load := fo__law_load (P := P) (w := w) (base := base) (T := tbs K) (c.def_ 20 (d := d__law_load) rfl) V F__law_holds (by walk_at "len") w__law_load
  have F__law_members := fo__law_members (P := P) (w := w) (base := base) (T := tbs K) (c.def_ 21 (d := d__law_members) rfl) V F__law_whole (by walk_at "len") w__law_members
  have F__law_booked := fo__law_booked (P := P) (w := w) (base := base) (T := tbs K) (c.def_ 22 (d := d__law_booked) rfl) V F__law_holds (by walk_at "len") w__law_booked
  have F__law_is_accepted := fo__law_is_accepted (P := P) (w := w) (base := base) (T := tbs K) (c.def_ 23 (d := d__law_is_accepted) rfl) V F__law_load F__law_members (by walk_at "len") w__law_is_accepted
  have F__law_bits := fo__law_bits (P := P) (w := w) (base := base) (T := tbs K) (c.def_ 24 (d := d__law_bits) rfl) V F__law_row (by walk_at "len") w__law_bits
  have F__law_papers := fo__law_papers (P := P) (w := w) (base := base) (T := tbs K) (c.def_ 25 (d := d__law_papers) rfl) V F__law_bits F__law_cell F__law_row (by walk_at "len") w__law_papers
  have F__law_subsets := fo__law_subsets (P := P) (w := w) (base := base) (T := tbs K) (c.def_ 26 (d := d__law_subsets) rfl) V (by walk_at "len") w__law_subsets
  have F__law_bad_stays := fo__law_bad_stays (P := P) (w := w) (base := base) (T := tbs K) (c.def_ 27 (d := d__law_bad_stays) rfl) V (by walk_at "len") w__law_bad_stays
  have F__law_said := fo__law_said (P := P) (w := w) (base := base) (T := tbs K) (c.def_ 28 (d := d__law_said) rfl) V F_is_accepted F_most_bookings (by walk_at "len") (w__law_said V.ex)
  have F__law_spoilt := fo__law_spoilt (P := P) (w := w) (base := base) (T := tbs K) (c.def_ 29 (d := d__law_spoilt) rfl) V F__law_said F__law_bad_stays F__law_row F__law_cell (by walk_at "len") w__law_spoilt
  exact fn_ofX F sc_law (by walk_at "len") (b_law V F__law_spoilt F__law_papers F__law_is_accepted F_is_accepted F__law_subsets F_most_bookings F__law_members F__law_booked F__law_load F__law_stays F__law_row F__law_cell) w_law
end
end K25
open PySem PySem.W PySem.Calls PyProof.Rows
theorem PySem.Challenge.cw_parcelbank_k25_bookings_taken_in_turn_holds : PySem.Challenge.rw_parcelbank_k25_bookings_taken_in_turn.Holds := by
  w_on; o_law
  refine HandSHeadRun.head_any (r := K25.R) (q := K25.qv) (H := K25.hk) (ob := K25.ob) (M := 6000) (loose := K25.loose) (d := HandSHeadRun.topDef K25.R.prog 43) (kwd := []) K25.ob_eq
    (by kernel_rfl) (fun s => by kernel_rfl) K25.run (by kernel_rfl) (by kernel_rfl) (by kernel_rfl) (by rfl) (by first | assumption | decide +kernel) (by decide +kernel) ⟨rfl, rfl, rfl, rfl, rfl, by decide +kernel⟩ ?hw ?hc
  case hw => w_witness2
  case hc =>
    refine LamX.walk_ofTsE (l := PySem.Challenge.rw_parcelbank_k25_bookings_taken_in_turn) (n := 63) (k := 11) (x := "script") (CX := fun w => L2.CX (PySem.Challenge.rw_parcelbank_k25_bookings_taken_in_turn).prog w) rfl (by decide) (by kernel_rfl) ⟨rfl, by decide, by decide⟩ ?F (fun _ _ _ _ _ z => XL.no_out z)
    intro w mg fa h Y G hmg0
    obtain ⟨K, KX, c⟩ := Y
    have hmg : mg ("law" : PySem.Str) = some (.ref fa) := by
      have e : (HandSHeadRun.topDef K25.R.prog 43).name = ("law" : PySem.Str) := by kernel_rfl
      rw [← e]
      exact hmg0
    have mo := He.ba c.more
    have V := K25.nv_of KX G c.t.d mo.1
    have e := hmg.symm.trans V.g_law
    cases e
    obtain ⟨fd, F⟩ := c.t.d.def_ 30 (d := K25.d_law) rfl
    refine ⟨K, KX, fd, K25.tf.map (He.cT K), XL.SpX (K25.tbs K) K (He.ga K) K25.R_law, fun p hp => ?_, fun p hp => ?_, fun p hp => ?_, fun s v => ?_, fun H a ns _ _ hH hS => XL.law_sp (fun ns => ⟨ns, rfl, rfl⟩) (XL.tabs_in (fun t ht => ?_) hH) hS, fun base _ _ TBs => K25.law_ok V c.t.d (of_decide_eq_true mo.2) TBs F⟩
    · obtain ⟨q, hq, rfl⟩ := List.mem_map.mp hp
      exact c.empty q hq
    · obtain ⟨q, hq, rfl⟩ := List.mem_map.mp hp
      exact c.out q hq
    · obtain ⟨q, hq, rfl⟩ := List.mem_map.mp hp
      exact PySem.W.codeHd_of_K KX (c.hd q hq)
    · exact L2.FunD.bindsA (ps := ["script"]) F (fun _ _ _ _ _ _ us hl => match us, hl with | [_], _ => rfl) s [v] rfl
    · exact K25.tbs_in t ht
