import PyProof.Rows.All
import HandS.Defaults
import HandS.ForExc
import HandS.ForMost
import HandS.Head0
import HandS.Head1
import HandS.Head2
import HandS.HeadEnd
import HandS.HeadHook1
import HandS.HeadHook2
import HandS.HeadHook3
import HandS.HeadHook4
import HandS.IsInst
import HandS.More
import HandS.SortInts
import HandS.Star
import HandS.Style
import HandS.TupAny
import HandS.TupMul
import HandS.Walk
import HandS.Wide
import HandS.Zip
import KE.GoesEnum
import KE.GoesMore
import KE.GoesNew
import KE.GoesZip
import OpenK.AllK
import PyProof.NoPylong
import Wide.All
import Wide.FinOn
import PySem.Challenge.RW_squarepaths_k00_whole_worths
set_option Elab.async false
set_option linter.all false
set_option maxRecDepth 100000
set_option maxHeartbeats 4000000
/-! # A layer of data over HandS: values by what they are (PyData), each construct's total meaning -/
namespace DL
open PySem PySem.Spec PyProof.Rows L2
abbrev D := PyData
abbrev Row := List Int × Int × Int × Int
/-! ### what a value is -/
mutual
inductive Rp (K : PySem.W.Frag) (H : Hp) : V → D → Prop
  | non : Rp K H .non .none
  | bl (b : Bool) : Rp K H (.bl b) (.bool b)
  | int (i : Int) : Rp K H (.int i) (.int i)
  | str (x : Str) : Rp K H (.str x) (.str x)
  | lst {a : Addr} {xs : List V} {ds : List D} : H a = some (.lst xs) → RpAll K H xs ds → Rp K H (.ref a) (.list ds)
  | tup {a : Addr} {xs : List V} {ds : List D} : SqT K H a xs → RpAll K H xs ds → Rp K H (.ref a) (.tuple ds)
inductive RpAll (K : PySem.W.Frag) (H : Hp) : List V → List D → Prop
  | nil : RpAll K H [] []
  | cons {v : V} {vs : List V} {d : D} {ds : List D} : Rp K H v d → RpAll K H vs ds → RpAll K H (v :: vs) (d :: ds)
end
theorem seqT_same {K : PySem.W.Frag} {H H' : Hp} {a : Addr} {xs : List V} (e : Same H H') (h : SqT K H a xs) : SqT K H' a xs := by
  rcases h with (h | ⟨o, h⟩) | h
  · exact .inl (.inl (e _ _ h))
  · exact .inl (.inr ⟨o, e _ _ h⟩)
  · exact .inr h
section
variable {K : PySem.W.Frag} {H H' : Hp}
mutual
theorem Rp.mono (e : Same H H') : ∀ {v : V} {d : D}, Rp K H v d → Rp K H' v d
  | _, _, .non => .non
  | _, _, .bl b => .bl b
  | _, _, .int i => .int i
  | _, _, .str x => .str x
  | _, _, .lst h r => .lst (e _ _ h) (RpAll.mono e r)
  | _, _, .tup h r => .tup (seqT_same e h) (RpAll.mono e r)
theorem RpAll.mono (e : Same H H') : ∀ {v : List V} {d : List D}, RpAll K H v d → RpAll K H' v d
  | _, _, .nil => .nil
  | _, _, .cons h r => .cons (Rp.mono e h) (RpAll.mono e r)
end
mutual
theorem Rp.dp : ∀ {v : V} {d : D}, Rp K H v d → Dp K H v d
  | _, _, .non => .non
  | _, _, .bl b => .bl b
  | _, _, .int i => .int i
  | _, _, .str x => .str x
  | _, _, .lst h r => .lst (SqL.of h) (RpAll.dp r)
  | _, _, .tup h r => .tup h (RpAll.dp r)
theorem RpAll.dp : ∀ {v : List V} {d : List D}, RpAll K H v d → DpAll K H v d
  | _, _, .nil => .nil
  | _, _, .cons h r => .cons (Rp.dp h) (RpAll.dp r)
end
theorem RpAll.length : ∀ {vs : List V} {ds : List D}, RpAll K H vs ds → vs.length = ds.length
  | _, _, .nil => rfl
  | _, _, .cons _ r => congrArg (· + 1) r.length
theorem RpAll.get : ∀ {vs : List V} {ds : List D} {i : Nat} {d : D}, RpAll K H vs ds → ds[i]? = some d → ∃ v, vs[i]? = some v ∧ Rp K H v d
  | _, _, _, _, .nil, e => by simp at e
  | _, _, 0, _, .cons r _, e => by simp at e; subst e; exact ⟨_, rfl, r⟩
  | _, _, i + 1, d, .cons _ t, e => by
    obtain ⟨u, h1, h2⟩ := RpAll.get (i := i) (d := d) t (by simpa using e)
    exact ⟨u, by simpa using h1, h2⟩
theorem RpAll.getV : ∀ {vs : List V} {ds : List D} {i : Nat} {v : V}, RpAll K H vs ds → vs[i]? = some v → ∃ d, ds[i]? = some d ∧ Rp K H v d
  | _, _, _, _, .nil, e => by simp at e
  | _, _, 0, _, .cons r _, e => by simp at e; subst e; exact ⟨_, rfl, r⟩
  | _, _, i + 1, d, .cons _ t, e => by
    obtain ⟨u, h1, h2⟩ := RpAll.getV (i := i) (v := d) t (by simpa using e)
    exact ⟨u, by simpa using h1, h2⟩
theorem RpAll.append : ∀ {vs ws : List V} {ds es : List D}, RpAll K H vs ds → RpAll K H ws es → RpAll K H (vs ++ ws) (ds ++ es)
  | _, _, _, _, .nil, s => s
  | _, _, _, _, .cons r t, s => .cons r (t.append s)
theorem RpAll.take : ∀ {vs : List V} {ds : List D} (n : Nat), RpAll K H vs ds → RpAll K H (vs.take n) (ds.take n)
  | _, _, 0, _ => .nil
  | _, _, _ + 1, .nil => .nil
  | _, _, n + 1, .cons r t => .cons r (t.take n)
theorem RpAll.drop : ∀ {vs : List V} {ds : List D} (n : Nat), RpAll K H vs ds → RpAll K H (vs.drop n) (ds.drop n)
  | _, _, 0, r => r
  | _, _, _ + 1, .nil => .nil
  | _, _, n + 1, .cons _ t => t.drop n
theorem RpAll.set {v : V} {d : D} (r : Rp K H v d) : ∀ {vs : List V} {ds : List D} (i : Nat), RpAll K H vs ds → RpAll K H (vs.set i v) (ds.set i d)
  | _, _, _, .nil => .nil
  | _, _, 0, .cons _ t => .cons r t
  | _, _, i + 1, .cons q t => .cons q (RpAll.set r i t)
theorem RpAll.eraseIdx : ∀ {vs : List V} {ds : List D} (i : Nat), RpAll K H vs ds → RpAll K H (vs.eraseIdx i) (ds.eraseIdx i)
  | _, _, _, .nil => .nil
  | _, _, 0, .cons _ t => t
  | _, _, i + 1, .cons q t => .cons q (RpAll.eraseIdx i t)
theorem RpAll.insertIdx {v : V} {d : D} (r : Rp K H v d) : ∀ {vs : List V} {ds : List D} (i : Nat), RpAll K H vs ds → RpAll K H (vs.insertIdx i v) (ds.insertIdx i d)
  | _, _, 0, .nil => .cons r .nil
  | _, _, _ + 1, .nil => .nil
  | _, _, 0, .cons q t => .cons r (.cons q t)
  | _, _, i + 1, .cons q t => by
    rw [List.insertIdx_succ_cons, List.insertIdx_succ_cons]
    exact .cons q (RpAll.insertIdx r i t)
theorem RpAll.rep {vs : List V} {ds : List D} (h : RpAll K H vs ds) : ∀ k : Nat, RpAll K H (List.replicate k vs).flatten (List.replicate k ds).flatten
  | 0 => .nil
  | k + 1 => by
    rw [List.replicate_succ, List.replicate_succ, List.flatten_cons, List.flatten_cons]
    exact h.append (RpAll.rep h k)
theorem Rp.int_inv {v : V} {i : Int} (h : Rp K H v (.int i)) : v = .int i := by cases h; rfl
theorem Rp.bl_inv {v : V} {b : Bool} (h : Rp K H v (.bool b)) : v = .bl b := by cases h; rfl
theorem Rp.non_inv {v : V} (h : Rp K H v .none) : v = .non := by cases h; rfl
theorem Rp.str_inv {v : V} {x : Str} (h : Rp K H v (.str x)) : v = .str x := by cases h; rfl
theorem Rp.tup_inv {v : V} {ds : List D} (h : Rp K H v (.tuple ds)) : ∃ a xs, v = .ref a ∧ SqT K H a xs ∧ RpAll K H xs ds := by
  cases h with
  | tup h r => exact ⟨_, _, rfl, h, r⟩
theorem Rp.lst_inv {v : V} {ds : List D} (h : Rp K H v (.list ds)) : ∃ a xs, v = .ref a ∧ H a = some (.lst xs) ∧ RpAll K H xs ds := by
  cases h with
  | lst h r => exact ⟨_, _, rfl, h, r⟩
theorem RpAll.ints : ∀ {vs : List V} {ns : List Int}, RpAll K H vs (ns.map .int) → vs = ns.map V.int
  | _, [], h => by cases h; rfl
  | _, n :: ns, h => by
    cases h with
    | cons h1 h2 => rw [h1.int_inv, RpAll.ints h2]; rfl
theorem RpAll.bls : ∀ {vs : List V} {ns : List Bool}, RpAll K H vs (ns.map .bool) → vs = ns.map V.bl
  | _, [], h => by cases h; rfl
  | _, n :: ns, h => by
    cases h with
    | cons h1 h2 => rw [h1.bl_inv, RpAll.bls h2]; rfl
theorem RpAll.of_ints : ∀ (ns : List Int), RpAll K H (ns.map V.int) (ns.map .int)
  | [] => .nil
  | n :: ns => .cons (.int n) (RpAll.of_ints ns)
end
/-- a value that is read: its container stands in H, its items are shared -/
inductive Bp (K : PySem.W.Frag) (Hs H : Hp) : V → D → Prop
  | sh {v : V} {d : D} : Rp K Hs v d → Bp K Hs H v d
  | lst {a : Addr} {xs : List V} {ds : List D} : H a = some (.lst xs) → RpAll K Hs xs ds → Bp K Hs H (.ref a) (.list ds)
section
variable {K : PySem.W.Frag} {Hs H : Hp}
theorem Bp.rp {v : V} {d : D} (e : Same Hs H) (h : Bp K Hs H v d) : Rp K H v d := by
  cases h with
  | sh h => exact h.mono e
  | lst h r => exact .lst h (r.mono e)
theorem Bp.int_inv {v : V} {i : Int} (h : Bp K Hs H v (.int i)) : v = .int i := by cases h with | sh h => exact h.int_inv
theorem Bp.bl_inv {v : V} {i : Bool} (h : Bp K Hs H v (.bool i)) : v = .bl i := by cases h with | sh h => exact h.bl_inv
theorem Bp.lst_inv {v : V} {ds : List D} (e : Same Hs H) (h : Bp K Hs H v (.list ds)) : ∃ a xs, v = .ref a ∧ H a = some (.lst xs) ∧ RpAll K Hs xs ds := by
  cases h with
  | sh h =>
    obtain ⟨a, xs, rfl, h1, h2⟩ := h.lst_inv
    exact ⟨a, xs, rfl, e _ _ h1, h2⟩
  | lst h r => exact ⟨_, _, rfl, h, r⟩
theorem Bp.tup_inv {v : V} {ds : List D} (h : Bp K Hs H v (.tuple ds)) : ∃ a xs, v = .ref a ∧ SqT K Hs a xs ∧ RpAll K Hs xs ds := by
  cases h with
  | sh h => exact h.tup_inv
theorem Bp.tup_rp {v : V} {ds : List D} (h : Bp K Hs H v (.tuple ds)) : Rp K Hs v (.tuple ds) := by
  cases h with
  | sh h => exact h
end
/-! ### the row that the law's helpers turn: its address, the script's address and ints -/
abbrev Rc := Option (Addr × Addr × List Int)
def Rc.ad (rc : Rc) : Option Addr := rc.map (·.1)
def rowV (sc : Addr) (r : Row) : List V := [.ref sc, .int r.2.1, .int r.2.2.1, .int r.2.2.2]
def RowAt (K : PySem.W.Frag) (rc : Rc) (H : Hp) (r : Row) : Prop := match rc with
  | none => True
  | some (a, sc, ns) => (H a = some (.lst (rowV sc r)) ∧ r.1 = ns) ∧ SqL K H sc (ns.map V.int)
/-- what an evaluation leaves: shared things grow, all else stands (but the row) -/
structure Ext (rc : Rc) (Hs H Hs' H' : Hp) : Prop where
  g : Same Hs Hs'
  s : Same Hs' H'
  k : ∀ b o, rc.ad ≠ some b → H b = some o → H' b = some o
  d : ∀ b, H b ≠ none → H' b ≠ none
  p : ∀ b, H b ≠ none → Hs b = none → Hs' b = none
section
variable {K : PySem.W.Frag} {rc : Rc} {Hs H Hs' H' Hs2 H2 : Hp}
theorem Ext.refl (e : Same Hs H) : Ext rc Hs H Hs H := ⟨Same.refl _, e, fun _ _ _ h => h, fun _ h => h, fun _ _ h => h⟩
theorem Ext.trans (a : Ext rc Hs H Hs' H') (b : Ext rc Hs' H' Hs2 H2) : Ext rc Hs H Hs2 H2 :=
  ⟨a.g.trans b.g, b.s, fun c o n h => b.k c o n (a.k c o n h), fun c h => b.d c (a.d c h), fun c h1 h2 => b.p c (a.d c h1) (a.p c h1 h2)⟩
theorem Ext.of_none (a : Ext none Hs H Hs' H') : Ext rc Hs H Hs' H' := ⟨a.g, a.s, fun b o _ h => a.k b o (by intro q; cases q) h, a.d, a.p⟩
theorem Ext.same_none (a : Ext none Hs H Hs' H') : Same H H' := fun b o h => a.k b o (by intro q; cases q) h
/-- a new object, shared -/
theorem Ext.new {p : Addr} {o : HO} (e : Same Hs H) (n : H p = none) : Ext rc Hs H (upd Hs p o) (upd H p o) := by
  have nn : ∀ b o', H b = some o' → b ≠ p := fun b o' h z => by rw [z, n] at h; cases h
  have ns : Hs p = none := by
    cases q : Hs p with
    | none => rfl
    | some u => rw [e p u q] at n; cases n
  refine ⟨fun b u h => ?_, fun b u h => ?_, fun b u _ h => by rw [upd_ne (nn b u h)]; exact h, fun b h => ?_, fun b h1 h2 => ?_⟩
  · rw [upd_ne (fun z => by rw [z, ns] at h; cases h)]; exact h
  · by_cases z : b = p
    · subst z; rw [upd_same] at h ⊢; exact h
    · rw [upd_ne z] at h ⊢; exact e b u h
  · by_cases z : b = p
    · subst z; rw [upd_same]; simp
    · rw [upd_ne z]; exact h
  · by_cases z : b = p
    · subst z; exact absurd n h1
    · rw [upd_ne z]; exact h2
/-- a new object, kept private -/
theorem Ext.newP {p : Addr} {o : HO} (e : Same Hs H) (n : H p = none) : Ext rc Hs H Hs (upd H p o) := by
  have nn : ∀ b o', H b = some o' → b ≠ p := fun b o' h z => by rw [z, n] at h; cases h
  refine ⟨Same.refl _, fun b u h => by rw [upd_ne (nn b u (e b u h))]; exact e b u h, fun b u _ h => by rw [upd_ne (nn b u h)]; exact h, fun b h => ?_, fun b _ h2 => h2⟩
  by_cases z : b = p
  · subst z; rw [upd_same]; simp
  · rw [upd_ne z]; exact h
theorem same_none {p : Addr} (e : Same Hs H) (n : H p = none) : Hs p = none := e.free n
theorem RowAt.keep (h : RowAt K rc H r) (k : ∀ b o, H b = some o → H' b = some o) : RowAt K rc H' r := by
  cases rc with
  | none => trivial
  | some x =>
    obtain ⟨a, sc, ns⟩ := x
    exact ⟨⟨k _ _ h.1.1, h.1.2⟩, Same.seq k h.2⟩
end
/-! ### the slots of a frame -/
inductive Sl where
  | no
  | s (d : D)
  | o (ds : List D)
  | b (d : D)
  | row
structure Ev where
  row : Row
  sl : List Sl
def Ev.get (ρ : Ev) (i : Nat) : Sl := ρ.sl.getD i .no
def Ev.set (ρ : Ev) (i : Nat) (x : Sl) : Ev := ⟨ρ.row, ρ.sl.set i x⟩
def Ev.wr (ρ : Ev) (r : Row) : Ev := ⟨r, ρ.sl⟩
def SlOk (K : PySem.W.Frag) (rc : Rc) (H0 Hs H : Hp) (sv : Option (Option V)) : Sl → Prop
  | .no => True
  | .s d => ∃ v, sv = some (some v) ∧ Rp K Hs v d
  | .o ds => ∃ p vs, sv = some (some (.ref p)) ∧ H p = some (.lst vs) ∧ Hs p = none ∧ H0 p = none ∧ rc.ad ≠ some p ∧ RpAll K Hs vs ds
  | .b d => ∃ v, sv = some (some v) ∧ (∀ p, v = .ref p → rc.ad ≠ some p) ∧ Bp K Hs H0 v d
  | .row => ∃ a, rc.ad = some a ∧ sv = some (some (.ref a))
def Sl.own : Sl → Prop
  | .o _ => True
  | _ => False
structure Rel (K : PySem.W.Frag) (rc : Rc) (Hs0 H0 : Hp) (σ : L2.St) (Hs H : Hp) (ρ : Ev) : Prop where
  ext : Ext rc Hs0 H0 Hs H
  s0 : Same Hs0 H0
  row : RowAt K rc H ρ.row
  rn : ∀ a, rc.ad = some a → H0 a ≠ none ∧ Hs0 a = none
  scr : ∀ a sc ns, rc = some (a, sc, ns) → SqL K H0 sc (ns.map V.int)
  len : σ.length = ρ.sl.length
  sl : ∀ i, SlOk K rc H0 Hs H σ[i]? (ρ.get i)
  dis : ∀ i j p, i ≠ j → (ρ.get i).own → (ρ.get j).own → σ[i]? = some (some (.ref p)) → σ[j]? ≠ some (some (.ref p))
section
variable {K : PySem.W.Frag} {rc : Rc} {Hs0 H0 Hs H Hs' H' : Hp} {σ : L2.St} {ρ : Ev}
theorem Rel.same (R : Rel K rc Hs0 H0 σ Hs H ρ) : Same Hs H := R.ext.s
/-- Bp over the entry heap, seen now -/
theorem Bp.now {v : V} {d : D} (h : Bp K Hs H0 v d) (hr : ∀ p, v = .ref p → rc.ad ≠ some p) (k : ∀ b o, rc.ad ≠ some b → H0 b = some o → H b = some o) : Bp K Hs H v d := by
  cases h with
  | sh h => exact .sh h
  | lst h r => exact .lst (k _ _ (hr _ rfl) h) r
theorem Bp.monoS {H1 : Hp} {v : V} {d : D} (e : Same Hs Hs') (h : Bp K Hs H1 v d) : Bp K Hs' H1 v d := by
  cases h with
  | sh h => exact .sh (h.mono e)
  | lst h r => exact .lst h (r.mono e)
theorem SlOk.ext {sv : Option (Option V)} {x : Sl} (h : SlOk K rc H0 Hs H sv x) (e : Ext rc Hs H Hs' H') : SlOk K rc H0 Hs' H' sv x := by
  cases x with
  | no => trivial
  | s d => obtain ⟨v, h1, h2⟩ := h; exact ⟨v, h1, h2.mono e.g⟩
  | o ds =>
    obtain ⟨p, vs, h1, h2, h3, h4, h5, h6⟩ := h
    exact ⟨p, vs, h1, e.k _ _ h5 h2, e.p _ (by rw [h2]; simp) h3, h4, h5, h6.mono e.g⟩
  | b d => obtain ⟨v, h1, h2, h3⟩ := h; exact ⟨v, h1, h2, h3.monoS e.g⟩
  | row => exact h
theorem Rel.ext' (R : Rel K rc Hs0 H0 σ Hs H ρ) (e : Ext rc Hs H Hs' H') {r : Row} (hr : RowAt K rc H' r) : Rel K rc Hs0 H0 σ Hs' H' (ρ.wr r) :=
  ⟨R.ext.trans e, R.s0, hr, R.rn, R.scr, R.len, fun i => (R.sl i).ext e, R.dis⟩
theorem Ev.get_set (ρ : Ev) (i j : Nat) (x : Sl) : (ρ.set i x).get j = if i = j ∧ i < ρ.sl.length then x else ρ.get j := by
  unfold Ev.set Ev.get
  simp only [List.getD_eq_getElem?_getD, List.getElem?_set]
  by_cases h : i = j
  · subst h
    by_cases h2 : i < ρ.sl.length
    · simp [h2]
    · simp [h2]
  · simp [h]
/-- a slot is set to what is shared -/
theorem Rel.set (R : Rel K rc Hs0 H0 σ Hs H ρ) {i : Nat} {v : V} {d : D} (h : Rp K Hs v d) : Rel K rc Hs0 H0 (σ.set i (some v)) Hs H (ρ.set i (.s d)) := by
  have hl : (ρ.set i (.s d)).sl.length = ρ.sl.length := by simp [Ev.set]
  refine ⟨R.ext, R.s0, R.row, R.rn, R.scr, by rw [hl, List.length_set]; exact R.len, fun j => ?_, fun j k p hjk hj hk => ?_⟩
  · rw [Ev.get_set]
    by_cases hij : i = j ∧ i < ρ.sl.length
    · rw [if_pos hij]
      obtain ⟨rfl, hi⟩ := hij
      rw [List.getElem?_set_self (by rw [R.len]; exact hi)]
      exact ⟨v, rfl, h⟩
    · rw [if_neg hij]
      by_cases e : i = j
      · subst e
        have hi : ¬ i < ρ.sl.length := fun z => hij ⟨rfl, z⟩
        have : ρ.get i = .no := by
          unfold Ev.get
          rw [List.getD_eq_getElem?_getD, List.getElem?_eq_none (by omega)]
          rfl
        rw [this]; trivial
      · rw [List.getElem?_set_ne e]; exact R.sl j
  · have key : ∀ j, ((ρ.set i (.s d)).get j).own → i ≠ j ∧ (ρ.get j).own := fun j h => by
      rw [Ev.get_set] at h
      by_cases hij : i = j ∧ i < ρ.sl.length
      · rw [if_pos hij] at h; exact h.elim
      · rw [if_neg hij] at h
        refine ⟨fun e => ?_, h⟩
        subst e
        have hi : ¬ i < ρ.sl.length := fun z => hij ⟨rfl, z⟩
        have : ρ.get i = .no := by
          unfold Ev.get
          rw [List.getD_eq_getElem?_getD, List.getElem?_eq_none (by omega)]
          rfl
        rw [this] at h; exact h
    obtain ⟨h1, h2⟩ := key j hj
    obtain ⟨h3, h4⟩ := key k hk
    rw [List.getElem?_set_ne h1, List.getElem?_set_ne h3]
    exact R.dis j k p hjk h2 h4
/-- a slot is set to a list of one's own -/
theorem Rel.setO (R : Rel K rc Hs0 H0 σ Hs H ρ) {i : Nat} {p : Addr} {vs : List V} {ds : List D} (hp : H p = some (.lst vs)) (hs : Hs p = none) (h0 : H0 p = none) (hr : RpAll K Hs vs ds)
    (nw : ∀ j, (ρ.get j).own → i ≠ j → σ[j]? ≠ some (some (.ref p))) : Rel K rc Hs0 H0 (σ.set i (some (.ref p))) Hs H (ρ.set i (.o ds)) := by
  have hl : (ρ.set i (.o ds)).sl.length = ρ.sl.length := by simp [Ev.set]
  have hrc : rc.ad ≠ some p := fun e => (R.rn p e).1 h0
  refine ⟨R.ext, R.s0, R.row, R.rn, R.scr, by rw [hl, List.length_set]; exact R.len, fun j => ?_, fun j k q hjk hj hk => ?_⟩
  · rw [Ev.get_set]
    by_cases hij : i = j ∧ i < ρ.sl.length
    · rw [if_pos hij]
      obtain ⟨rfl, hi⟩ := hij
      rw [List.getElem?_set_self (by rw [R.len]; exact hi)]
      exact ⟨p, vs, rfl, hp, hs, h0, hrc, hr⟩
    · rw [if_neg hij]
      by_cases e : i = j
      · subst e
        have hi : ¬ i < ρ.sl.length := fun z => hij ⟨rfl, z⟩
        have : ρ.get i = .no := by
          unfold Ev.get
          rw [List.getD_eq_getElem?_getD, List.getElem?_eq_none (by omega)]
          rfl
        rw [this]; trivial
      · rw [List.getElem?_set_ne e]; exact R.sl j
  · have out : ∀ j, ¬ j < ρ.sl.length → ρ.get j = .no := fun j hi => by
      unfold Ev.get
      rw [List.getD_eq_getElem?_getD, List.getElem?_eq_none (by omega)]
      rfl
    have key : ∀ j, ((ρ.set i (.o ds)).get j).own → (i = j ∧ i < ρ.sl.length) ∨ (i ≠ j ∧ (ρ.get j).own) := fun j h => by
      rw [Ev.get_set] at h
      by_cases hij : i = j ∧ i < ρ.sl.length
      · exact .inl hij
      · rw [if_neg hij] at h
        refine .inr ⟨fun e => ?_, h⟩
        subst e
        rw [out i fun z => hij ⟨rfl, z⟩] at h; exact h
    rcases key j hj with ⟨rfl, hi⟩ | ⟨h1, h2⟩
    · rcases key k hk with ⟨rfl, _⟩ | ⟨h3, h4⟩
      · exact absurd rfl hjk
      · rw [List.getElem?_set_self (by rw [R.len]; exact hi), List.getElem?_set_ne h3]
        intro e e2
        cases e
        exact nw k h4 h3 e2
    · rw [List.getElem?_set_ne h1]
      rcases key k hk with ⟨rfl, hi⟩ | ⟨h3, h4⟩
      · rw [List.getElem?_set_self (by rw [R.len]; exact hi)]
        intro e e2
        cases e2
        exact nw j h2 h1 e
      · rw [List.getElem?_set_ne h3]
        exact R.dis j k q hjk h2 h4
/-- a list of one's own is changed -/
theorem Rel.upd (R : Rel K rc Hs0 H0 σ Hs H ρ) {i : Nat} {p : Addr} {vs : List V} {ds es : List D} (hi : ρ.get i = .o ds) (hσ : σ[i]? = some (some (.ref p))) (hr : RpAll K Hs vs es) :
    Rel K rc Hs0 H0 σ Hs (L2.upd H p (.lst vs)) (ρ.set i (.o es)) := by
  have h := R.sl i
  rw [hi] at h
  obtain ⟨p', vs', e1, h2, h3, h4, h5, h6⟩ := h
  rw [hσ] at e1
  cases e1
  have hl : (ρ.set i (.o es)).sl.length = ρ.sl.length := by simp [Ev.set]
  have hin : i < ρ.sl.length := by
    rw [← R.len]
    exact (List.getElem?_eq_some_iff.mp hσ).1
  have nS : ∀ b o, Hs b = some o → b ≠ p := fun b o e z => by rw [z, h3] at e; cases e
  have n0 : ∀ b o, H0 b = some o → b ≠ p := fun b o e z => by rw [z, h4] at e; cases e
  have own : ∀ j, ((ρ.set i (.o es)).get j).own → (ρ.get j).own := fun j h => by
    rw [Ev.get_set] at h
    by_cases hij : i = j ∧ i < ρ.sl.length
    · rw [← hij.1, hi]; trivial
    · rw [if_neg hij] at h; exact h
  have hrow : RowAt K rc (L2.upd H p (.lst vs)) ρ.row := by
    cases hrc : rc with
    | none => trivial
    | some x =>
      obtain ⟨a, sc, ns⟩ := x
      have hR := R.row
      rw [hrc] at hR
      have ha : rc.ad = some a := by rw [hrc]; rfl
      have nap : a ≠ p := fun z => h5 (by rw [ha, z])
      refine ⟨⟨by rw [upd_ne nap]; exact hR.1.1, hR.1.2⟩, ?_⟩
      rcases R.scr a sc ns hrc with hz | hz
      · have z : sc ≠ p := by
          rcases hz with hz | ⟨o, hz⟩
          · exact n0 _ _ hz
          · exact n0 _ _ hz
        rcases hR.2 with hq | hq
        · rcases hq with hq | ⟨o, hq⟩
          · exact .inl (.inl (by rw [upd_ne z]; exact hq))
          · exact .inl (.inr ⟨o, by rw [upd_ne z]; exact hq⟩)
        · exact .inr hq
      · exact .inr hz
  refine ⟨⟨R.ext.g, fun b o e => by rw [upd_ne (nS b o e)]; exact R.ext.s b o e, fun b o n e => by rw [upd_ne (n0 b o e)]; exact R.ext.k b o n e, fun b e => ?_, R.ext.p⟩, R.s0, hrow, R.rn, R.scr, by rw [hl]; exact R.len, fun j => ?_, fun j k q hjk hj hk => R.dis j k q hjk (own j hj) (own k hk)⟩
  · by_cases z : b = p
    · subst z; rw [upd_same]; simp
    · rw [upd_ne z]; exact R.ext.d b e
  · rw [Ev.get_set]
    by_cases hij : i = j ∧ i < ρ.sl.length
    · rw [if_pos hij, ← hij.1]
      exact ⟨p, vs, hσ, upd_same, h3, h4, h5, hr⟩
    · rw [if_neg hij]
      have nij : i ≠ j := fun z => hij ⟨z, hin⟩
      have q := R.sl j
      cases hx : ρ.get j with
      | no => trivial
      | s d => rw [hx] at q; exact q
      | o dj =>
        rw [hx] at q
        obtain ⟨p2, v2, f1, f2, f3, f4, f5, f6⟩ := q
        have np : p2 ≠ p := fun z => by
          subst z
          exact R.dis i j p2 nij (by rw [hi]; trivial) (by rw [hx]; trivial) hσ f1
        exact ⟨p2, v2, f1, by rw [upd_ne np]; exact f2, f3, f4, f5, f6⟩
      | b d => rw [hx] at q; exact q
      | row => rw [hx] at q; exact q
end
end DL

namespace DL
open PySem PySem.Spec PyProof.Rows L2
/-! ### what an evaluation gives -/
abbrev MM (β : Type) := Ev → Option (β × Row)
abbrev TX (α : Type) := L2.St → Hp → (α → Hp → Prop) → Prop
def mBind {α β : Type} (f : MM α) (k : α → MM β) : MM β := fun ρ => match f ρ with
  | some (a, r) => k a (ρ.wr r)
  | none => none
def mRet {α : Type} (a : α) : MM α := fun ρ => some (a, ρ.row)
def mO {α : Type} (o : Option α) : MM α := fun ρ => match o with
  | some a => some (a, ρ.row)
  | none => none
theorem mBind_some {α β : Type} {f : MM α} {k : α → MM β} {ρ : Ev} {b : β} {r : Row} (h : mBind f k ρ = some (b, r)) : ∃ a r1, f ρ = some (a, r1) ∧ k a (ρ.wr r1) = some (b, r) := by
  unfold mBind at h
  cases e : f ρ with
  | none => rw [e] at h; cases h
  | some p => obtain ⟨a, r1⟩ := p; rw [e] at h; exact ⟨a, r1, rfl, h⟩
theorem mO_some {α : Type} {o : Option α} {ρ : Ev} {a : α} {r : Row} (h : mO o ρ = some (a, r)) : o = some a ∧ r = ρ.row := by
  unfold mO at h
  cases o with
  | none => cases h
  | some x => cases h; exact ⟨rfl, rfl⟩
def Kp (rc : Rc) (H H2 : Hp) : Prop := ∀ b o, rc.ad ≠ some b → H b = some o → H2 b = some o
/-- a container that stands: while all but the row stands; m: while what stood at the entry stands -/
structure Bst (K : PySem.W.Frag) (rc : Rc) (m : Bool) (H0 Hs H : Hp) (v : V) (d : D) : Prop where
  b : Bp K Hs H v d
  st : ∀ Hs2 H2, Same Hs Hs2 → Same Hs2 H2 → Kp rc H H2 → Bp K Hs2 H2 v d
  st0 : m = true → ∀ Hs2 H2, Same Hs Hs2 → Same Hs2 H2 → Kp rc H0 H2 → Bp K Hs2 H2 v d
def Sem {α β : Type} (K : PySem.W.Frag) (rc : Rc) (P : Hp → Hp → Hp → α → β → Prop) (t : TX α) (f : MM β) : Prop :=
  ∀ Hs0 H0 σ Hs H ρ, Rel K rc Hs0 H0 σ Hs H ρ → ∀ b r, f ρ = some (b, r) → ∀ Q : α → Hp → Prop, (∀ a Hs' H', Ext rc Hs H Hs' H' → RowAt K rc H' r → P H0 Hs' H' a b → Q a H') → t σ H Q
abbrev PE_ (K : PySem.W.Frag) : Hp → Hp → Hp → V → D → Prop := fun _ Hs _ v d => Rp K Hs v d
abbrev PB_ (K : PySem.W.Frag) (rc : Rc) (m : Bool) : Hp → Hp → Hp → V → D → Prop := fun H0 Hs H v d => Bst K rc m H0 Hs H v d
abbrev PT_ : Hp → Hp → Hp → Bool → Bool → Prop := fun _ _ _ a b => a = b
abbrev PA_ (K : PySem.W.Frag) : Hp → Hp → Hp → List V → List D → Prop := fun _ Hs _ v d => RpAll K Hs v d
/-- a new list, not shared -/
abbrev PF_ (K : PySem.W.Frag) : Hp → Hp → Hp → V → List D → Prop := fun H0 Hs H v ds => ∃ p vs, v = .ref p ∧ H p = some (.lst vs) ∧ Hs p = none ∧ H0 p = none ∧ RpAll K Hs vs ds
structure DE (X : Cx) (rc : Rc) (e : Expr) (t : TE) (f : MM D) : Prop where
  pe : PE X e t
  se : Sem X.K rc (PE_ X.K) t f
structure DB (X : Cx) (rc : Rc) (m : Bool) (e : Expr) (t : TE) (f : MM D) : Prop where
  pe : PE X e t
  se : Sem X.K rc (PB_ X.K rc m) t f
structure DF (X : Cx) (rc : Rc) (e : Expr) (t : TE) (f : MM (List D)) : Prop where
  pe : PE X e t
  se : Sem X.K rc (fun _ Hs H v ds => ∃ p vs, v = .ref p ∧ H p = some (.lst vs) ∧ Hs p = none ∧ RpAll X.K Hs vs ds) t f
  new : ∀ Hs0 H0 σ Hs H ρ, Rel X.K rc Hs0 H0 σ Hs H ρ → ∀ b r, f ρ = some (b, r) → ∀ Q : V → Hp → Prop, (∀ a Hs' H', Ext rc Hs H Hs' H' → RowAt X.K rc H' r → (∃ p vs, a = .ref p ∧ H p = none ∧ H' p = some (.lst vs) ∧ Hs' p = none ∧ RpAll X.K Hs' vs b) → Q a H') → t σ H Q
structure DT (X : Cx) (rc : Rc) (e : Expr) (t : TT) (f : MM Bool) : Prop where
  pe : PT X e t
  se : Sem X.K rc PT_ t f
structure DA (X : Cx) (rc : Rc) (es : List Expr) (t : TA) (f : MM (List D)) : Prop where
  pe : PA X es t
  se : Sem X.K rc (PA_ X.K) t f
section
variable {K : PySem.W.Frag} {rc : Rc} {m : Bool} {H0 Hs H Hs' H' : Hp} {v : V} {d : D}
theorem Bst.ext (h : Bst K rc m H0 Hs H v d) (e : Ext rc Hs H Hs' H') : Bst K rc m H0 Hs' H' v d :=
  ⟨h.st _ _ e.g e.s e.k, fun Hs2 H2 g s k => h.st _ _ (e.g.trans g) s fun b o n q => k b o n (e.k b o n q), fun hm Hs2 H2 g s k => h.st0 hm _ _ (e.g.trans g) s k⟩
theorem Bst.of_rp (h : Rp K Hs v d) : Bst K rc m H0 Hs H v d := ⟨.sh h, fun _ _ g _ _ => .sh (h.mono g), fun _ _ _ g _ _ => .sh (h.mono g)⟩
theorem Bst.weak (h : Bst K rc true H0 Hs H v d) : Bst K rc m H0 Hs H v d := ⟨h.b, h.st, fun _ => h.st0 rfl⟩
end
section
variable {X : Cx} {rc : Rc} {m : Bool} {e a b c : Expr} {pos : Pos} {ta tb tc te : TE} {fa fb fc : MM D}
theorem DE.toB (h : DE X rc e te fa) : DB X rc m e te fa := ⟨h.pe, fun Hs0 H0 σ Hs H ρ R b r hf Q q => h.se Hs0 H0 σ Hs H ρ R b r hf Q fun a Hs' H' e w p => q a Hs' H' e w (.of_rp p)⟩
theorem DF.toE {f : MM (List D)} (h : DF X rc e te f) : DE X rc e te (mBind f fun ds => mRet (.list ds)) := ⟨h.pe, fun Hs0 H0 σ Hs H ρ R b r hf Q q => by
  obtain ⟨ds, r1, h1, h2⟩ := mBind_some hf
  cases h2
  refine h.new Hs0 H0 σ Hs H ρ R ds _ h1 Q fun v Hs' H' e w ⟨p, vs, ev, hn, hp, hs, hr⟩ => ?_
  subst ev
  refine q _ (upd Hs' p (.lst vs)) H' ⟨fun b o hb => ?_, fun b o hb => ?_, e.k, e.d, fun b hb hs' => ?_⟩ w ?_
  · have hb' := e.g b o hb
    rw [upd_ne (fun z => by rw [z, hs] at hb'; cases hb')]
    exact hb'
  · by_cases z : b = p
    · subst z; rw [upd_same] at hb; cases hb; exact hp
    · rw [upd_ne z] at hb; exact e.s b o hb
  · have z : b ≠ p := fun z => by rw [z, hn] at hb; exact hb rfl
    rw [upd_ne z]; exact e.p b hb hs'
  · refine .lst upd_same (hr.mono fun b o hb => ?_)
    rw [upd_ne (fun z => by rw [z, hs] at hb; cases hb)]
    exact hb⟩
/-! ### names, constants -/
def mVar (i : Nat) : MM D := fun ρ => match ρ.get i with
  | .s d => some (d, ρ.row)
  | _ => none
def mVarB (i : Nat) : MM D := fun ρ => match ρ.get i with
  | .s d => some (d, ρ.row)
  | .o ds => some (.list ds, ρ.row)
  | .b d => some (d, ρ.row)
  | _ => none
def mVarS (i : Nat) : MM D := fun ρ => match ρ.get i with
  | .s d => some (d, ρ.row)
  | .b d => some (d, ρ.row)
  | _ => none
theorem de_var (i : Nat) {x : Str} {pos : Pos} (hN : X.N[i]? = some x := by rfl) (hv : Vis X.env.scope x := by first | exact Or.inl rfl | exact Or.inr (Or.inl rfl) | exact Or.inr (Or.inr rfl)) (hd : (x == ("__debug__" : Str)) = false := by decide)
    (hcd : (x == ("__classdict__" : Str)) = false := by decide) : DE X rc (.Name x pos) (tVar i) (mVar i) := ⟨pe_var hN hv hd hcd, fun Hs0 H0 σ Hs H ρ R d r hf Q q => by
  unfold mVar at hf
  have h := R.sl i
  cases e : ρ.get i with
  | s d' =>
    rw [e] at hf h
    cases hf
    obtain ⟨v, h1, h2⟩ := h
    exact ⟨v, h1, q v Hs H (.refl R.same) R.row h2⟩
  | _ => rw [e] at hf; cases hf⟩
theorem own_bst {K : PySem.W.Frag} {H0 Hs H : Hp} {p : Addr} {vs : List V} {ds : List D} (h1 : H p = some (.lst vs)) (h2 : rc.ad ≠ some p) (h3 : RpAll K Hs vs ds) : Bst K rc false H0 Hs H (.ref p) (.list ds) :=
  ⟨.lst h1 h3, fun _ _ g _ k => .lst (k _ _ h2 h1) (h3.mono g), fun z => by cases z⟩
theorem bor_bst {K : PySem.W.Frag} {H0 Hs H : Hp} {v : V} {d : D} (hk : Kp rc H0 H) (h2 : ∀ p, v = .ref p → rc.ad ≠ some p) (h3 : Bp K Hs H0 v d) : Bst K rc m H0 Hs H v d :=
  ⟨h3.now h2 hk, fun _ _ g _ k => (h3.monoS g).now h2 fun b o n q => k b o n (hk b o n q), fun _ _ _ g _ k => (h3.monoS g).now h2 k⟩
theorem db_var (i : Nat) {x : Str} {pos : Pos} (hN : X.N[i]? = some x := by rfl) (hv : Vis X.env.scope x := by first | exact Or.inl rfl | exact Or.inr (Or.inl rfl) | exact Or.inr (Or.inr rfl)) (hd : (x == ("__debug__" : Str)) = false := by decide)
    (hcd : (x == ("__classdict__" : Str)) = false := by decide) : DB X rc false (.Name x pos) (tVar i) (mVarB i) := ⟨pe_var hN hv hd hcd, fun Hs0 H0 σ Hs H ρ R d r hf Q q => by
  unfold mVarB at hf
  have h := R.sl i
  cases e : ρ.get i with
  | s d' =>
    rw [e] at hf h
    cases hf
    obtain ⟨v, h1, h2⟩ := h
    exact ⟨v, h1, q v Hs H (.refl R.same) R.row (.of_rp h2)⟩
  | o ds =>
    rw [e] at hf h
    cases hf
    obtain ⟨p, vs, h1, h2, h3, h4, h5, h6⟩ := h
    exact ⟨_, h1, q _ Hs H (.refl R.same) R.row (own_bst h2 h5 h6)⟩
  | b d' =>
    rw [e] at hf h
    cases hf
    obtain ⟨v, h1, h2, h3⟩ := h
    exact ⟨v, h1, q v Hs H (.refl R.same) R.row (bor_bst R.ext.k h2 h3)⟩
  | _ => rw [e] at hf; cases hf⟩
theorem db_varS (i : Nat) {x : Str} {pos : Pos} (hN : X.N[i]? = some x := by rfl) (hv : Vis X.env.scope x := by first | exact Or.inl rfl | exact Or.inr (Or.inl rfl) | exact Or.inr (Or.inr rfl)) (hd : (x == ("__debug__" : Str)) = false := by decide)
    (hcd : (x == ("__classdict__" : Str)) = false := by decide) : DB X rc true (.Name x pos) (tVar i) (mVarS i) := ⟨pe_var hN hv hd hcd, fun Hs0 H0 σ Hs H ρ R d r hf Q q => by
  unfold mVarS at hf
  have h := R.sl i
  cases e : ρ.get i with
  | s d' =>
    rw [e] at hf h
    cases hf
    obtain ⟨v, h1, h2⟩ := h
    exact ⟨v, h1, q v Hs H (.refl R.same) R.row (.of_rp h2)⟩
  | b d' =>
    rw [e] at hf h
    cases hf
    obtain ⟨v, h1, h2, h3⟩ := h
    exact ⟨v, h1, q v Hs H (.refl R.same) R.row (bor_bst R.ext.k h2 h3)⟩
  | _ => rw [e] at hf; cases hf⟩
theorem sem_c {K : PySem.W.Frag} {v : V} {d : D} (h : ∀ H, Rp K H v d) : Sem K rc (PE_ K) (tC v) (mRet d) := fun Hs0 H0 σ Hs H ρ R d' r hf Q q => by
  cases hf
  exact q v Hs H (.refl R.same) R.row (h Hs)
theorem de_int {i j pos} : DE X rc (.Constant (.int i) j pos) (tC (.int i)) (mRet (.int i)) := ⟨pe_int, sem_c fun _ => .int i⟩
theorem de_bl {i j pos} : DE X rc (.Constant (.bool i) j pos) (tC (.bl i)) (mRet (.bool i)) := ⟨pe_bl, sem_c fun _ => .bl i⟩
theorem de_non {j pos} : DE X rc (.Constant .none j pos) (tC .non) (mRet .none) := ⟨pe_non, sem_c fun _ => .non⟩
theorem de_str {x j pos} : DE X rc (.Constant (.str x) j pos) (tC (.str x)) (mRet (.str x)) := ⟨pe_str, sem_c fun _ => .str x⟩
/-- a module's constant -/
structure Glb (K : PySem.W.Frag) (mg : Str → Option Value) (x : Str) (v : V) (d : D) : Prop where
  ex : ∃ u, mg x = some u ∧ RelV v u
  rp : ∀ H, Rp K H v d
theorem de_glob {x : Str} {v : V} {d : D} {pos : Pos} (g : Glb X.K X.mg x v d) (hg : Gl X x := by rfl) (hd : (x == ("__debug__" : Str)) = false := by decide) : DE X rc (.Name x pos) (tC v) (mRet d) := by
  obtain ⟨u, h1, h2⟩ := g.ex
  exact ⟨pe_glob hg h1 h2 hd, sem_c g.rp⟩
/-! ### operators -/
/-- what an operator does with two values that are read -/
def OpS (K : PySem.W.Frag) (rc : Rc) (r : R2) (op : D → D → Option D) : Prop := ∀ Hs H x y a b d, Same Hs H → Bp K Hs H x a → Bp K Hs H y b → op a b = some d →
  ∀ Q : VK, (∀ v Hs' H', Ext rc Hs H Hs' H' → (∀ w, RowAt K rc H w → RowAt K rc H' w) → Rp K Hs' v d → Q v H') → r x y H Q
def mOp (op : D → D → Option D) (fa fb : MM D) : MM D := mBind fa fun a => mBind fb fun b => mO (op a b)
theorem sem_op {K : PySem.W.Frag} {m m' : Bool} {r : R2} {op : D → D → Option D} (ho : OpS K rc r op) (ha : Sem K rc (PB_ K rc m) ta fa) (hb : Sem K rc (PB_ K rc m') tb fb) : Sem K rc (PE_ K) (tOp r ta tb) (mOp op fa fb) := fun Hs0 H0 σ Hs H ρ R d w hf Q q => by
  obtain ⟨a, r1, h1, h2⟩ := mBind_some hf
  obtain ⟨b, r2, h3, h4⟩ := mBind_some h2
  obtain ⟨h5, rfl⟩ := mO_some h4
  refine ha Hs0 H0 σ Hs H ρ R a r1 h1 _ fun x Hs1 H1 e1 w1 p1 => ?_
  refine hb Hs0 H0 σ Hs1 H1 (ρ.wr r1) (R.ext' e1 w1) b _ h3 _ fun y Hs2 H2 e2 w2 p2 => ?_
  refine ho Hs2 H2 x y a b d e2.s (p1.ext e2).b p2.b h5 Q fun v Hs' H' e3 w3 p3 => ?_
  exact q v Hs' H' ((e1.trans e2).trans e3) (w3 _ w2) p3
theorem de_op {op : Operator} {r : R2} {o : D → D → Option D} {m m' : Bool} (hr : OpR X (binaryOp op) r) (ho : OpS X.K rc r o) (ha : DB X rc m a ta fa) (hb : DB X rc m' b tb fb) : DE X rc (.BinOp a op b pos) (tOp r ta tb) (mOp o fa fb) := ⟨pe_op hr ha.pe hb.pe, sem_op ho ha.se hb.se⟩
theorem de_cmp {op : CmpOp} {r : R2} {o : D → D → Option D} {m m' : Bool} (hr : OpR X (compareOp op) r) (ho : OpS X.K rc r o) (ha : DB X rc m a ta fa) (hb : DB X rc m' b tb fb) (hm : behindInMarks op b = false := by exact nomark _) : DE X rc (.Compare a [op] [b] pos) (tOp r ta tb) (mOp o fa fb) := ⟨pe_cmpR hr ha.pe hb.pe hm, sem_op ho ha.se hb.se⟩
/-- a value that is True or False, as a test -/
def mTest (f : MM D) : MM Bool := mBind f fun d => mO (match d with
  | .bool b => some b
  | _ => none)
theorem mTest_some {f : MM D} {ρ : Ev} {b : Bool} {r : Row} (h : mTest f ρ = some (b, r)) : f ρ = some (.bool b, r) := by
  obtain ⟨d, r1, h1, h2⟩ := mBind_some h
  cases d with
  | bool k => obtain ⟨h3, rfl⟩ := mO_some h2; cases h3; exact h1
  | _ => obtain ⟨h3, _⟩ := mO_some h2; cases h3
theorem sem_test {K : PySem.W.Frag} (ha : Sem K rc (PE_ K) ta fa) : Sem K rc PT_ (tTest ta) (mTest fa) := fun Hs0 H0 σ Hs H ρ R b r hf Q q =>
  ha Hs0 H0 σ Hs H ρ R _ r (mTest_some hf) _ fun v Hs' H' e w p => ⟨b, p.bl_inv, q b Hs' H' e w rfl⟩
theorem dt_cmp {op : CmpOp} {r : R2} {o : D → D → Option D} {m m' : Bool} (hr : OpR X (compareOp op) r) (ho : OpS X.K rc r o) (ha : DB X rc m a ta fa) (hb : DB X rc m' b tb fb) (hm : behindInMarks op b = false := by exact nomark _) :
    DT X rc (.Compare a [op] [b] pos) (tTest (tOp r ta tb)) (mTest (mOp o fa fb)) := ⟨pt_cmpR hr ha.pe hb.pe hm, sem_test (sem_op ho ha.se hb.se)⟩
theorem dt_val (ha : DE X rc a ta fa) (he : ∀ whole, isTrue a X.env whole = (do let v ← whole; standAt a.pos; holding [v] (truthy v)) := by intro _; rfl) : DT X rc a (tB ta) (mTest fa) := ⟨pt_val ha.pe he, sem_test ha.se⟩
/-- a op1 b op2 c -/
def mChain (o o' : D → D → Option D) (fa fb fc : MM D) : MM D := mBind fa fun a => mBind fb fun b => mBind (mO (o a b)) fun k => match k with
  | .bool true => mBind fc fun c => mO (o' b c)
  | .bool false => mRet (.bool false)
  | _ => fun _ => none
theorem sem_chain {K : PySem.W.Frag} {m m' m2 : Bool} {r r' : R2} {o o' : D → D → Option D} (ho : OpS K rc r o) (ho' : OpS K rc r' o') (ha : Sem K rc (PB_ K rc m) ta fa) (hb : Sem K rc (PB_ K rc m') tb fb) (hc : Sem K rc (PB_ K rc m2) tc fc) : Sem K rc (PE_ K) (tChain r r' ta tb tc) (mChain o o' fa fb fc) := fun Hs0 H0 σ Hs H ρ R d w hf Q q => by
  obtain ⟨a, r1, h1, h2⟩ := mBind_some hf
  obtain ⟨b, r2, h3, h4⟩ := mBind_some h2
  obtain ⟨k, r3, h5, h6⟩ := mBind_some h4
  obtain ⟨h7, rfl⟩ := mO_some h5
  refine ha Hs0 H0 σ Hs H ρ R a r1 h1 _ fun x Hs1 H1 e1 w1 p1 => ?_
  refine hb Hs0 H0 σ Hs1 H1 (ρ.wr r1) (R.ext' e1 w1) b _ h3 _ fun y Hs2 H2 e2 w2 p2 => ?_
  refine ho Hs2 H2 x y a b k e2.s (p1.ext e2).b p2.b h7 _ fun v Hs3 H3 e3 w3 p3 => ?_
  have R3 := R.ext' ((e1.trans e2).trans e3) (w3 _ w2)
  cases k with
  | bool k =>
    refine ⟨k, p3.bl_inv, ?_⟩
    cases k with
    | true =>
      rw [if_pos rfl]
      obtain ⟨c, r4, h8, h9⟩ := mBind_some h6
      obtain ⟨h10, rfl⟩ := mO_some h9
      refine hc Hs0 H0 σ Hs3 H3 (ρ.wr _) R3 c _ h8 _ fun z Hs4 H4 e4 w4 p4 => ?_
      refine ho' Hs4 H4 y z b c d e4.s ((p2.ext e3).ext e4).b p4.b h10 Q fun v' Hs5 H5 e5 w5 p5 => ?_
      exact q v' Hs5 H5 ((((e1.trans e2).trans e3).trans e4).trans e5) (w5 _ w4) p5
    | false =>
      rw [if_neg Bool.false_ne_true]
      cases h6
      exact q _ Hs3 H3 ((e1.trans e2).trans e3) (w3 _ w2) (.bl false)
  | _ => cases h6
theorem de_chain {op op' : CmpOp} {r r' : R2} {o o' : D → D → Option D} {m m' m2 : Bool} (hr : OpR X (compareOp op) r) (ho : OpS X.K rc r o) (hr' : OpR X (compareOp op') r') (ho' : OpS X.K rc r' o') (ha : DB X rc m a ta fa) (hb : DB X rc m' b tb fb) (hc : DB X rc m2 c tc fc)
    (hm : lastMarks [op, op'] [b, c] = false := by with_unfolding_all rfl) : DE X rc (.Compare a [op, op'] [b, c] pos) (tChain r r' ta tb tc) (mChain o o' fa fb fc) := ⟨pe_chain hr hr' ha.pe hb.pe hc.pe hm, sem_chain ho ho' ha.se hb.se hc.se⟩
theorem dt_chain {op op' : CmpOp} {r r' : R2} {o o' : D → D → Option D} {m m' m2 : Bool} (hr : OpR X (compareOp op) r) (ho : OpS X.K rc r o) (hr' : OpR X (compareOp op') r') (ho' : OpS X.K rc r' o') (ha : DB X rc m a ta fa) (hb : DB X rc m' b tb fb) (hc : DB X rc m2 c tc fc)
    (hm : lastMarks [op, op'] [b, c] = false := by with_unfolding_all rfl) : DT X rc (.Compare a [op, op'] [b, c] pos) (tTest (tChain r r' ta tb tc)) (mTest (mChain o o' fa fb fc)) := ⟨pt_chain hr hr' ha.pe hb.pe hc.pe hm, sem_test (sem_chain ho ho' ha.se hb.se hc.se)⟩
/-! ### the operators' meanings -/
def dAdd : D → D → Option D
  | .int i, .int j => some (.int (i + j))
  | .tuple xs, .tuple ys => if xs.length + ys.length ≤ 1000000 then some (.tuple (xs ++ ys)) else none
  | _, _ => none
def dSub : D → D → Option D
  | .int i, .int j => some (.int (i - j))
  | _, _ => none
def mulOk (i j : Int) : Bool := decide (i.natAbs.log2 + j.natAbs.log2 < 134000000)
def dMul : D → D → Option D
  | .int i, .int j => if mulOk i j = true then some (.int (i * j)) else none
  | _, _ => none
def dDiv : D → D → Option D
  | .int i, .int j => if j = 0 then none else some (.int (i.fdiv j))
  | _, _ => none
def dMod : D → D → Option D
  | .int i, .int j => if j = 0 then none else some (.int (i.fmod j))
  | _, _ => none
def dPow : D → D → Option D
  | .int i, .int j => if 0 ≤ j ∧ j ≤ 1000 ∧ i.natAbs < 2 ^ 64 then some (.int (i ^ j.toNat)) else none
  | _, _ => none
def dLt : D → D → Option D
  | .int i, .int j => some (.bool (decide (i < j)))
  | _, _ => none
def dLe : D → D → Option D
  | .int i, .int j => some (.bool (decide (i ≤ j)))
  | _, _ => none
def dGt : D → D → Option D
  | .int i, .int j => some (.bool (decide (j < i)))
  | _, _ => none
def dGe : D → D → Option D
  | .int i, .int j => some (.bool (decide (j ≤ i)))
  | _, _ => none
def dEq (a b : D) : Option D := if (SeqAt.shaped a && SeqAt.shaped b) = true then some (.bool (PyData.eqv a b)) else none
def dNe (a b : D) : Option D := if (SeqAt.shaped a && SeqAt.shaped b) = true then some (.bool (!PyData.eqv a b)) else none
theorem mulOk_ok {i j : Int} (h : mulOk i j = true) : IntMulOk i j := by
  have b : ∀ x : Int, Builtin.Int.intBits x ≤ x.natAbs.log2 + 1 := fun x => by
    unfold Builtin.Int.intBits
    split <;> omega
  have h1 := b i
  have h2 := b j
  have h3 : i.natAbs.log2 + j.natAbs.log2 < 134000000 := of_decide_eq_true h
  have e : bitsLine = 134217728 := by decide
  unfold IntMulOk
  intro z
  rw [Bool.and_eq_true] at z
  have z2 := z.2
  unfold Builtin.Int.intTooBig at z2
  have z3 := of_decide_eq_true z2
  rw [e] at z3
  omega
theorem op_mulM : OpR X (binaryOp .Mult) (rI IntMulOk fun i j => .int (i * j)) := opI fun _ _ _ _ _ _ _ hc q => mul_int q hc
def PylongAt (X : Cx) : Prop := ∀ pins σ H s, Inv X pins σ H s → PySem.PylongRoom (model X.prog X.w) X.A s
theorem op_divP (hp : PylongAt X) : OpR X (binaryOp .FloorDiv) (rI (fun _ j => j ≠ 0) fun i j => .int (i.fdiv j)) := by
  intro pins s σ H x y v u Q I rx ry h
  obtain ⟨i, j, rfl, rfl, hc, q⟩ := h
  obtain ⟨t, rfl⟩ := rx
  obtain ⟨t', rfl⟩ := ry
  exact floordiv_int hc ⟨.int _, H, I.tok _, ⟨_, rfl⟩, q⟩ (.inr (hp pins σ H s I))
section
variable {K : PySem.W.Frag}
theorem ops_rI {C : Int → Int → Prop} {g : Int → Int → V} {op : D → D → Option D} (h : ∀ a b d, op a b = some d → ∃ i j, a = .int i ∧ b = .int j ∧ C i j ∧ ∀ H, Rp K H (g i j) d) : OpS K rc (rI C g) op := fun Hs H x y a b d e hx hy ho Q q => by
  obtain ⟨i, j, rfl, rfl, hc, hr⟩ := h a b d ho
  exact ⟨i, j, hx.int_inv, hy.int_inv, hc, q _ Hs H (.refl e) (fun _ w => w) (hr Hs)⟩
theorem ops_rI0 {g : Int → Int → V} {op : D → D → Option D} (h : ∀ a b d, op a b = some d → ∃ i j, a = .int i ∧ b = .int j ∧ ∀ H, Rp K H (g i j) d) : OpS K rc (rI0 g) op := fun Hs H x y a b d e hx hy ho Q q => by
  obtain ⟨i, j, rfl, rfl, hr⟩ := h a b d ho
  exact ⟨i, j, hx.int_inv, hy.int_inv, q _ Hs H (.refl e) (fun _ w => w) (hr Hs)⟩
def dAddI : D → D → Option D
  | .int i, .int j => some (.int (i + j))
  | _, _ => none
theorem s_add : OpS K rc (rI0 fun i j => .int (i + j)) dAddI := ops_rI0 fun a b d h => by
  cases a <;> cases b <;> cases h
  exact ⟨_, _, rfl, rfl, fun _ => .int _⟩
theorem s_sub : OpS K rc (rI0 fun i j => .int (i - j)) dSub := ops_rI0 fun a b d h => by
  cases a <;> cases b <;> cases h
  exact ⟨_, _, rfl, rfl, fun _ => .int _⟩
theorem s_mul : OpS K rc (rI IntMulOk fun i j => .int (i * j)) dMul := ops_rI fun a b d h => by
  cases a <;> cases b <;> try (cases h)
  rename_i i j
  simp only [dMul] at h
  by_cases hm : mulOk i j = true
  · rw [if_pos hm] at h; cases h; exact ⟨_, _, rfl, rfl, mulOk_ok hm, fun _ => .int _⟩
  · rw [if_neg hm] at h; cases h
theorem s_div : OpS K rc (rI (fun _ j => j ≠ 0) fun i j => .int (i.fdiv j)) dDiv := ops_rI fun a b d h => by
  cases a <;> cases b <;> try (cases h)
  rename_i i j
  simp only [dDiv] at h
  by_cases hm : j = 0
  · rw [if_pos hm] at h; cases h
  · rw [if_neg hm] at h; cases h; exact ⟨_, _, rfl, rfl, hm, fun _ => .int _⟩
theorem s_mod : OpS K rc (rI (fun _ j => j ≠ 0) fun i j => .int (i.fmod j)) dMod := ops_rI fun a b d h => by
  cases a <;> cases b <;> try (cases h)
  rename_i i j
  simp only [dMod] at h
  by_cases hm : j = 0
  · rw [if_pos hm] at h; cases h
  · rw [if_neg hm] at h; cases h; exact ⟨_, _, rfl, rfl, hm, fun _ => .int _⟩
theorem s_lt : OpS K rc (rI0 fun i j => .bl (decide (i < j))) dLt := ops_rI0 fun a b d h => by
  cases a <;> cases b <;> cases h
  exact ⟨_, _, rfl, rfl, fun _ => .bl _⟩
theorem s_le : OpS K rc (rI0 fun i j => .bl (decide (i ≤ j))) dLe := ops_rI0 fun a b d h => by
  cases a <;> cases b <;> cases h
  exact ⟨_, _, rfl, rfl, fun _ => .bl _⟩
theorem s_gt : OpS K rc (rI0 fun i j => .bl (decide (j < i))) dGt := ops_rI0 fun a b d h => by
  cases a <;> cases b <;> cases h
  exact ⟨_, _, rfl, rfl, fun _ => .bl _⟩
theorem s_ge : OpS K rc (rI0 fun i j => .bl (decide (j ≤ i))) dGe := ops_rI0 fun a b d h => by
  cases a <;> cases b <;> cases h
  exact ⟨_, _, rfl, rfl, fun _ => .bl _⟩
theorem s_eq : OpS K rc (rEqD K) dEq := fun Hs H x y a b d e hx hy ho Q q => by
  unfold dEq at ho
  by_cases hs : (SeqAt.shaped a && SeqAt.shaped b) = true
  · rw [if_pos hs] at ho
    cases ho
    obtain ⟨h1, h2⟩ := Bool.and_eq_true_iff.mp hs
    exact ⟨a, b, (hx.rp e).dp, (hy.rp e).dp, h1, h2, q _ Hs H (.refl e) (fun _ w => w) (.bl _)⟩
  · rw [if_neg hs] at ho; cases ho
theorem s_ne : OpS K rc (rNeD K) dNe := fun Hs H x y a b d e hx hy ho Q q => by
  unfold dNe at ho
  by_cases hs : (SeqAt.shaped a && SeqAt.shaped b) = true
  · rw [if_pos hs] at ho
    cases ho
    obtain ⟨h1, h2⟩ := Bool.and_eq_true_iff.mp hs
    exact ⟨a, b, (hx.rp e).dp, (hy.rp e).dp, h1, h2, q _ Hs H (.refl e) (fun _ w => w) (.bl _)⟩
  · rw [if_neg hs] at ho; cases ho
end
end
end DL

namespace DL
open PySem PySem.Spec PyProof.Rows L2
section
variable {X : Cx} {rc : Rc} {m m' : Bool} {e a b c : Expr} {pos : Pos} {ta tb tc te : TE} {fa fb fc : MM D} {es : List Expr} {t : TA} {fl : MM (List D)}
/-! ### displays -/
def dItems : D → Option (List D)
  | .list ds => some ds
  | .tuple ds => some ds
  | _ => none
theorem big_line {n : Nat} (h : n ≤ 1000000) : n ≤ sizeLine := by rw [sizeLine_eq]; omega
theorem big_lt {n : Nat} (h : n < 1000000) : n < sizeLine := by rw [sizeLine_eq]; omega
def mCons (fa : MM D) (fl : MM (List D)) : MM (List D) := mBind fa fun a => mBind fl fun l => mRet (a :: l)
def mStar (fa : MM D) (fl : MM (List D)) : MM (List D) := mBind fa fun a => mBind (mO (dItems a)) fun l1 => mBind fl fun l => mRet (l1 ++ l)
theorem da_nil : DA X rc [] tNil (mRet []) := ⟨pa_nil, fun Hs0 H0 σ Hs H ρ R d r hf Q q => by
  cases hf
  exact q [] Hs H (.refl R.same) R.row .nil⟩
theorem da_cons (ha : DE X rc e te fa) (hl : DA X rc es t fl) (hs : starEach (e :: es) X.env = (false, eval e X.env) :: starEach es X.env := by rfl) : DA X rc (e :: es) (tCons te t) (mCons fa fl) := ⟨pa_cons ha.pe hl.pe hs, fun Hs0 H0 σ Hs H ρ R d w hf Q q => by
  obtain ⟨a, r1, h1, h2⟩ := mBind_some hf
  obtain ⟨l, r2, h3, h4⟩ := mBind_some h2
  cases h4
  refine ha.se Hs0 H0 σ Hs H ρ R a r1 h1 _ fun x Hs1 H1 e1 w1 p1 => ?_
  refine hl.se Hs0 H0 σ Hs1 H1 (ρ.wr r1) (R.ext' e1 w1) l _ h3 _ fun y Hs2 H2 e2 w2 p2 => ?_
  exact q _ Hs2 H2 (e1.trans e2) w2 (.cons (p1.mono e2.g) p2)⟩
theorem da_star {p : Pos} (ha : DB X rc m e te fa) (hl : DA X rc es t fl) (hs : starEach (.Starred e p :: es) X.env = (true, eval e X.env) :: starEach es X.env := by rfl) : DA X rc (.Starred e p :: es) (StX.tStar X.K te t) (mStar fa fl) := ⟨StX.pa_star ha.pe hl.pe hs, fun Hs0 H0 σ Hs H ρ R d w hf Q q => by
  obtain ⟨a, r1, h1, h2⟩ := mBind_some hf
  obtain ⟨l1, r2, h3, h4⟩ := mBind_some h2
  obtain ⟨h5, rfl⟩ := mO_some h3
  obtain ⟨l, r3, h6, h7⟩ := mBind_some h4
  cases h7
  refine ha.se Hs0 H0 σ Hs H ρ R a _ h1 _ fun x Hs1 H1 e1 w1 p1 => ?_
  have key : ∃ p xs, x = V.ref p ∧ (SqT X.K H1 p xs ∨ SqL X.K H1 p xs) ∧ RpAll X.K Hs1 xs l1 := by
    cases a with
    | list ds =>
      cases h5
      obtain ⟨p, xs, ev, h8, h9⟩ := p1.b.lst_inv e1.s
      exact ⟨p, xs, ev, .inr (SqL.of h8), h9⟩
    | tuple ds =>
      cases h5
      obtain ⟨p, xs, ev, h8, h9⟩ := p1.b.tup_inv
      exact ⟨p, xs, ev, .inl (seqT_same e1.s h8), h9⟩
    | _ => cases h5
  obtain ⟨p, xs, ev, h8, h9⟩ := key
  refine ⟨p, xs, ev, h8, ?_⟩
  refine hl.se Hs0 H0 σ Hs1 H1 (ρ.wr _) (R.ext' e1 w1) l _ h6 _ fun y Hs2 H2 e2 w2 p2 => ?_
  exact q _ Hs2 H2 (e1.trans e2) w2 ((h9.mono e2.g).append p2)⟩
def dTup (ds : List D) : Option D := if ds.length ≤ 1000000 then some (.tuple ds) else none
def dLst (ds : List D) : Option (List D) := if ds.length ≤ 1000000 then some ds else none
theorem row_new {K : PySem.W.Frag} {H : Hp} {p : Addr} {o : HO} {w : Row} (n : H p = none) (h : RowAt K rc H w) : RowAt K rc (upd H p o) w := h.keep fun b u q => by
  rw [upd_ne (fun z => by rw [z, n] at q; cases q)]; exact q
theorem RpAll.new {K : PySem.W.Frag} {Hs : Hp} {p : Addr} {o : HO} {vs : List V} {ds : List D} (n : Hs p = none) (h : RpAll K Hs vs ds) : RpAll K (upd Hs p o) vs ds := h.mono fun b u q => by
  rw [upd_ne (fun z => by rw [z, n] at q; cases q)]; exact q
def mTup (fl : MM (List D)) : MM D := mBind fl fun l => mO (dTup l)
theorem de_tup {k : Nat} (h : DA X rc es t fl) : DE X rc (.Tuple es k pos) (tTup t) (mTup fl) := ⟨pe_tup h.pe, fun Hs0 H0 σ Hs H ρ R d w hf Q q => by
  obtain ⟨l, r1, h1, h2⟩ := mBind_some hf
  obtain ⟨h3, rfl⟩ := mO_some h2
  unfold dTup at h3
  by_cases hl : l.length ≤ 1000000
  · rw [if_pos hl] at h3
    cases h3
    refine h.se Hs0 H0 σ Hs H ρ R l _ h1 _ fun xs Hs1 H1 e1 w1 p1 => ?_
    refine ⟨by rw [p1.length]; exact big_line hl, fun p hp => ?_⟩
    have hs := same_none e1.s hp
    exact q _ _ _ (e1.trans (.new e1.s hp)) (row_new hp w1) (.tup (.inl (.inl upd_same)) (p1.new hs))
  · rw [if_neg hl] at h3; cases h3⟩
def mLst (fl : MM (List D)) : MM (List D) := mBind fl fun l => mO (dLst l)
theorem df_of {te : TE} {f : MM (List D)} (hp : PE X e te) (h : ∀ Hs0 H0 σ Hs H ρ, Rel X.K rc Hs0 H0 σ Hs H ρ → ∀ b r, f ρ = some (b, r) → ∀ Q : V → Hp → Prop, (∀ a Hs' H', Ext rc Hs H Hs' H' → RowAt X.K rc H' r → (∃ p vs, a = .ref p ∧ H p = none ∧ H' p = some (.lst vs) ∧ Hs' p = none ∧ RpAll X.K Hs' vs b) → Q a H') → te σ H Q) : DF X rc e te f :=
  ⟨hp, fun Hs0 H0 σ Hs H ρ R b r hf Q q => h Hs0 H0 σ Hs H ρ R b r hf Q fun a Hs' H' e w ⟨p, vs, h1, _, h2, h3, h4⟩ => q a Hs' H' e w ⟨p, vs, h1, h2, h3, h4⟩, h⟩
theorem df_lst (h : DA X rc es t fl) : DF X rc (.List es pos) (tLst t) (mLst fl) := df_of (pe_lst h.pe) fun Hs0 H0 σ Hs H ρ R d w hf Q q => by
  obtain ⟨l, r1, h1, h2⟩ := mBind_some hf
  obtain ⟨h3, rfl⟩ := mO_some h2
  unfold dLst at h3
  by_cases hl : l.length ≤ 1000000
  · rw [if_pos hl] at h3
    cases h3
    refine h.se Hs0 H0 σ Hs H ρ R _ _ h1 _ fun xs Hs1 H1 e1 w1 p1 => ?_
    refine ⟨by rw [p1.length]; exact big_line hl, fun p hp => ?_⟩
    have hs := same_none e1.s hp
    have hn : H p = none := by
      cases z : H p with
      | none => rfl
      | some u => exact absurd hp (e1.d p (by rw [z]; simp))
    exact q _ Hs1 _ (e1.trans (.newP e1.s hp)) (row_new hp w1) ⟨p, xs, rfl, hn, upd_same, hs, p1⟩
  · rw [if_neg hl] at h3; cases h3
/-! ### list operators: a new list -/
def OpF (K : PySem.W.Frag) (rc : Rc) (r : R2) (op : D → D → Option (List D)) : Prop := ∀ Hs H x y a b d, Same Hs H → Bp K Hs H x a → Bp K Hs H y b → op a b = some d →
  ∀ Q : VK, (∀ p vs H', Ext rc Hs H Hs H' → (∀ w, RowAt K rc H w → RowAt K rc H' w) → H p = none → H' p = some (.lst vs) → RpAll K Hs vs d → Q (.ref p) H') → r x y H Q
def mOpF (op : D → D → Option (List D)) (fa fb : MM D) : MM (List D) := mBind fa fun a => mBind fb fun b => mO (op a b)
theorem df_op {op : Operator} {r : R2} {o : D → D → Option (List D)} (hr : OpR X (binaryOp op) r) (ho : OpF X.K rc r o) (ha : DB X rc m a ta fa) (hb : DB X rc m' b tb fb) : DF X rc (.BinOp a op b pos) (tOp r ta tb) (mOpF o fa fb) := df_of (pe_op hr ha.pe hb.pe) fun Hs0 H0 σ Hs H ρ R d w hf Q q => by
  obtain ⟨a, r1, h1, h2⟩ := mBind_some hf
  obtain ⟨b, r2, h3, h4⟩ := mBind_some h2
  obtain ⟨h5, rfl⟩ := mO_some h4
  refine ha.se Hs0 H0 σ Hs H ρ R a r1 h1 _ fun x Hs1 H1 e1 w1 p1 => ?_
  refine hb.se Hs0 H0 σ Hs1 H1 (ρ.wr r1) (R.ext' e1 w1) b _ h3 _ fun y Hs2 H2 e2 w2 p2 => ?_
  refine ho Hs2 H2 x y a b d e2.s (p1.ext e2).b p2.b h5 Q fun p vs H' e3 w3 hn hp hr => ?_
  have e12 := e1.trans e2
  have hn0 : H p = none := by
    cases z : H p with
    | none => rfl
    | some u => exact absurd hn (e12.d p (by rw [z]; simp))
  exact q _ Hs2 H' (e12.trans e3) (w3 _ w2) ⟨p, vs, rfl, hn0, hp, same_none e12.s hn, hr⟩
def dCat : D → D → Option (List D)
  | .list xs, .list ys => if xs.length + ys.length ≤ 1000000 then some (xs ++ ys) else none
  | _, _ => none
def dRep : D → D → Option (List D)
  | .list xs, .int k => if 0 ≤ k ∧ k ≤ 1000 ∧ xs.length ≤ 1000 then some (List.replicate k.toNat xs).flatten else none
  | _, _ => none
theorem f_cat {K : PySem.W.Frag} : OpF K rc rCat dCat := fun Hs H x y a b d e hx hy ho Q q => by
  cases a <;> cases b <;> try (cases ho)
  rename_i xs ys
  simp only [dCat] at ho
  by_cases hl : xs.length + ys.length ≤ 1000000
  · rw [if_pos hl] at ho
    cases ho
    obtain ⟨p, vs, rfl, h1, h2⟩ := hx.lst_inv e
    obtain ⟨p2, ws, rfl, h3, h4⟩ := hy.lst_inv e
    refine ⟨p, p2, vs, ws, rfl, rfl, h1, h3, by rw [h2.length, h4.length]; exact big_line hl, fun z hz => ?_⟩
    exact q z _ _ (.newP e hz) (fun w => row_new hz) hz upd_same (h2.append h4)
  · rw [if_neg hl] at ho; cases ho
theorem f_rep {K : PySem.W.Frag} : OpF K rc rRep dRep := fun Hs H x y a b d e hx hy ho Q q => by
  cases a <;> cases b <;> try (cases ho)
  rename_i xs k
  simp only [dRep] at ho
  by_cases hl : 0 ≤ k ∧ k ≤ 1000 ∧ xs.length ≤ 1000
  · rw [if_pos hl] at ho
    cases ho
    obtain ⟨h0, h9, hz⟩ := hl
    obtain ⟨p, vs, rfl, h1, h2⟩ := hx.lst_inv e
    have hm : vs.length * k.toNat ≤ 1000 * 1000 := Nat.mul_le_mul (by rw [h2.length]; exact hz) (by omega)
    refine ⟨p, k, vs, rfl, hy.int_inv, h1, by omega, by omega, by rw [sizeLine_eq]; omega, fun z hz' => ?_⟩
    exact q z _ _ (.newP e hz') (fun w => row_new hz') hz' upd_same (h2.rep _)
  · rw [if_neg hl] at ho; cases ho
def dCatT : D → D → Option D
  | .tuple xs, .tuple ys => if xs.length + ys.length ≤ 1000000 then some (.tuple (xs ++ ys)) else none
  | _, _ => none
theorem s_catT {K : PySem.W.Frag} : OpS K rc (rCatA K) dCatT := fun Hs H x y a b d e hx hy ho Q q => by
  cases a <;> cases b <;> try (cases ho)
  rename_i xs ys
  simp only [dCatT] at ho
  by_cases hl : xs.length + ys.length ≤ 1000000
  · rw [if_pos hl] at ho
    cases ho
    obtain ⟨p, vs, rfl, h1, h2⟩ := hx.tup_inv
    obtain ⟨p2, ws, rfl, h3, h4⟩ := hy.tup_inv
    refine ⟨p, p2, vs, ws, rfl, rfl, seqT_same e h1, seqT_same e h3, by rw [h2.length, h4.length]; exact big_line hl, fun z => ?_, fun _ z => ?_, fun _ _ z hz => ?_⟩
    · subst z
      cases h2
      exact q _ Hs H (.refl e) (fun _ w => w) hy.tup_rp
    · subst z
      cases h4
      rw [List.append_nil] at q
      exact q _ Hs H (.refl e) (fun _ w => w) hx.tup_rp
    · have hs := same_none e hz
      exact q _ _ _ (.new e hz) (fun w => row_new hz) (.tup (.inl (.inl upd_same)) ((h2.append h4).new hs))
  · rw [if_neg hl] at ho; cases ho


def dRepT : D → D → Option D
  | .tuple xs, .int k => if 2 ≤ k ∧ k ≤ 1000 ∧ xs.length ≤ 1000 ∧ xs ≠ [] then some (.tuple (List.replicate k.toNat xs).flatten) else none
  | _, _ => none
theorem s_repT {K : PySem.W.Frag} : OpS K rc (rRepT K) dRepT := fun Hs H x y a b d e hx hy ho Q q => by
  cases a <;> cases b <;> try (cases ho)
  rename_i xs k
  simp only [dRepT] at ho
  by_cases hl : 2 ≤ k ∧ k ≤ 1000 ∧ xs.length ≤ 1000 ∧ xs ≠ []
  · rw [if_pos hl] at ho
    cases ho
    obtain ⟨p, vs, rfl, h1, h2⟩ := hx.tup_inv
    refine ⟨p, k, vs, rfl, hy.int_inv, seqT_same e h1, fun z => ?_, hl.1, hl.2.1, by rw [h2.length]; exact hl.2.2.1, fun z hz => ?_⟩
    · subst z
      cases h2
      exact hl.2.2.2 rfl
    · have hs := same_none e hz
      exact q _ _ _ (.new e hz) (fun w => row_new hz) (.tup (.inl (.inl upd_same)) ((h2.rep _).new hs))
  · rw [if_neg hl] at ho; cases ho
/-! ### items and slices -/
def dIx : D → D → Option D
  | .list ds, .int i => atI ds i
  | .tuple ds, .int i => atI ds i
  | _, _ => none
theorem RpAll.atI {K : PySem.W.Frag} {H : Hp} {vs : List V} {ds : List D} {i : Int} {d : D} (h : RpAll K H vs ds) (e : L2.atI ds i = some d) : ∃ v, L2.atI vs i = some v ∧ Rp K H v d := by
  unfold L2.atI at e ⊢
  rw [h.length]
  cases q : ixN ds.length i with
  | none => rw [q] at e; cases e
  | some j =>
    rw [q] at e
    exact h.get e
theorem s_ix {K : PySem.W.Frag} : OpS K rc (rIx K) dIx := fun Hs H x y a b d e hx hy ho Q q => by
  cases a <;> cases b <;> try (cases ho)
  · rename_i xs i
    obtain ⟨p, vs, rfl, h1, h2⟩ := hx.lst_inv e
    obtain ⟨v, h3, h4⟩ := h2.atI ho
    exact .inl ⟨p, vs, i, v, rfl, hy.int_inv, SqL.of h1, h3, q v Hs H (.refl e) (fun _ w => w) h4⟩
  · rename_i xs i
    obtain ⟨p, vs, rfl, h1, h2⟩ := hx.tup_inv
    obtain ⟨v, h3, h4⟩ := h2.atI ho
    exact .inr (.inl ⟨p, vs, i, v, rfl, hy.int_inv, seqT_same e h1, h3, q v Hs H (.refl e) (fun _ w => w) h4⟩)
theorem de_ix (ha : DB X rc m a ta fa) (hb : DB X rc m' b tb fb) (hs : PlainIx b := by exact fun _ _ => rfl) : DE X rc (.Subscript a b pos) (tOp (rIx X.K) ta tb) (mOp dIx fa fb) := ⟨pe_ix ix_seq ha.pe hb.pe hs, sem_op s_ix ha.se hb.se⟩
abbrev PO_ : Hp → Hp → Hp → Option Int → Option Int → Prop := fun _ _ _ a b => a = b
structure DO (X : Cx) (rc : Rc) (e : Option Expr) (t : TO) (f : MM (Option Int)) : Prop where
  pe : PO X e t
  se : Sem X.K rc PO_ t f
theorem do_none : DO X rc none tNoPart (mRet none) := ⟨po_none, fun Hs0 H0 σ Hs H ρ R d r hf Q q => by
  cases hf
  exact q none Hs H (.refl R.same) R.row rfl⟩
def mPart (fa : MM D) : MM (Option Int) := mBind fa fun a => mO (match a with
  | .int i => some (some i)
  | _ => none)
theorem do_some (ha : DE X rc a ta fa) : DO X rc (some a) (tPart ta) (mPart fa) := ⟨po_some ha.pe, fun Hs0 H0 σ Hs H ρ R d r hf Q q => by
  obtain ⟨a, r1, h1, h2⟩ := mBind_some hf
  obtain ⟨h3, rfl⟩ := mO_some h2
  cases a with
  | int i =>
    cases h3
    exact ha.se Hs0 H0 σ Hs H ρ R _ _ h1 _ fun x Hs1 H1 e1 w1 p1 => ⟨i, p1.int_inv, q _ Hs1 H1 e1 w1 rfl⟩
  | _ => cases h3⟩
def cutD (xs : List D) (lo hi : Option Int) : List D := (xs.drop (HT.sIx xs.length 0 lo)).take (HT.sIx xs.length xs.length hi - HT.sIx xs.length 0 lo)
def dSl (a : D) (lo hi : Option Int) : Option D := match a with
  | .list ds => some (.list (cutD ds lo hi))
  | .tuple ds => some (.tuple (cutD ds lo hi))
  | _ => none
theorem RpAll.cut {K : PySem.W.Frag} {H : Hp} {vs : List V} {ds : List D} (h : RpAll K H vs ds) (lo hi : Option Int) : RpAll K H (cutV vs lo hi) (cutD ds lo hi) := by
  unfold cutV cutD
  rw [h.length]
  exact (h.drop _).take _
def mSl (fa : MM D) (fl fh : MM (Option Int)) : MM D := mBind fa fun a => mBind fl fun l => mBind fh fun h => mO (dSl a l h)
def rSlD (K : PySem.W.Frag) : V → Option Int → Option Int → Hp → VK → Prop := fun x lo hi H Q => rSlL K x lo hi H Q ∨ rSlA K x lo hi H Q
theorem de_slice {lo hi : Option Expr} {tl th : TO} {fl fh : MM (Option Int)} {p2 : Pos} (ha : DB X rc m a ta fa) (hl : DO X rc lo tl fl) (hh : DO X rc hi th fh) : DE X rc (.Subscript a (.Slice lo hi none p2) pos) (tSl (rSlD X.K) ta tl th) (mSl fa fl fh) := ⟨pe_slice (sl_list.or sl_tupA) ha.pe hl.pe hh.pe, fun Hs0 H0 σ Hs H ρ R d w hf Q q => by
  obtain ⟨a, r1, h1, h2⟩ := mBind_some hf
  obtain ⟨l, r2, h3, h4⟩ := mBind_some h2
  obtain ⟨u, r3, h5, h6⟩ := mBind_some h4
  obtain ⟨h7, rfl⟩ := mO_some h6
  refine ha.se Hs0 H0 σ Hs H ρ R a r1 h1 _ fun x Hs1 H1 e1 w1 p1 => ?_
  refine hl.se Hs0 H0 σ Hs1 H1 (ρ.wr r1) (R.ext' e1 w1) l _ h3 _ fun y Hs2 H2 e2 w2 p2 => ?_
  have R2 := R.ext' (e1.trans e2) w2
  refine hh.se Hs0 H0 σ Hs2 H2 (ρ.wr r2) R2 u _ h5 _ fun y2 Hs3 H3 e3 w3 p3 => ?_
  cases p2
  cases p3
  have e13 := (e1.trans e2).trans e3
  have p1' := ((p1.ext e2).ext e3).b
  cases a with
  | list ds =>
    cases h7
    obtain ⟨p, vs, rfl, h8, h9⟩ := p1'.lst_inv e3.s
    refine .inl ⟨p, vs, rfl, SqL.of h8, fun z hz => ?_⟩
    have hs := same_none e3.s hz
    exact q _ _ _ (e13.trans (.new e3.s hz)) (row_new hz w3) (.lst upd_same ((h9.cut l u).new hs))
  | tuple ds =>
    cases h7
    obtain ⟨p, vs, rfl, h8, h9⟩ := p1'.tup_inv
    refine .inr ⟨p, vs, rfl, seqT_same e3.s h8, fun hw => ?_, fun _ z hz => ?_⟩
    · have ew : cutD ds l u = ds := by
        unfold cutD
        rw [← h9.length, hw.1, hw.2, List.drop_zero, Nat.sub_zero, h9.length, List.take_length]
      rw [ew] at q
      exact q _ _ _ e13 w3 p1'.tup_rp
    · have hs := same_none e3.s hz
      exact q _ _ _ (e13.trans (.new e3.s hz)) (row_new hz w3) (.tup (.inl (.inl upd_same)) ((h9.cut l u).new hs))
  | _ => cases h7⟩
/-! ### choices, tests -/
def mIf {β : Type} (ft : MM Bool) (fa fb : MM β) : MM β := mBind ft fun k => if k = true then fa else fb
variable {tt tt' : TT} {ft ft' : MM Bool}
theorem de_if {c : Expr} (ht : DT X rc c tt ft) (ha : DE X rc a ta fa) (hb : DE X rc b tb fb) : DE X rc (.IfExp c a b pos) (tIf tt ta tb) (mIf ft fa fb) := ⟨pe_ifExp ht.pe ha.pe hb.pe, fun Hs0 H0 σ Hs H ρ R d w hf Q q => by
  obtain ⟨k, r1, h1, h2⟩ := mBind_some hf
  refine ht.se Hs0 H0 σ Hs H ρ R k r1 h1 _ fun k' Hs1 H1 e1 w1 p1 => ?_
  cases p1
  cases k with
  | true =>
    rw [if_pos rfl] at h2 ⊢
    exact ha.se Hs0 H0 σ Hs1 H1 _ (R.ext' e1 w1) d w h2 Q fun v Hs2 H2 e2 w2 p2 => q v Hs2 H2 (e1.trans e2) w2 p2
  | false =>
    rw [if_neg Bool.false_ne_true] at h2 ⊢
    exact hb.se Hs0 H0 σ Hs1 H1 _ (R.ext' e1 w1) d w h2 Q fun v Hs2 H2 e2 w2 p2 => q v Hs2 H2 (e1.trans e2) w2 p2⟩
def mNot (ft : MM Bool) : MM Bool := mBind ft fun k => mRet (!k)
theorem dt_not (ht : DT X rc a tt ft) : DT X rc (.UnaryOp .Not a pos) (tNot tt) (mNot ft) := ⟨pt_not ht.pe, fun Hs0 H0 σ Hs H ρ R d w hf Q q => by
  obtain ⟨k, r1, h1, h2⟩ := mBind_some hf
  cases h2
  exact ht.se Hs0 H0 σ Hs H ρ R k _ h1 _ fun k' Hs1 H1 e1 w1 p1 => q _ Hs1 H1 e1 w1 (by cases p1; rfl)⟩
structure DW (X : Cx) (rc : Rc) (e : Expr) (t : TT) (f : MM Bool) : Prop where
  pe : PW X e t
  se : Sem X.K rc PT_ t f
theorem DW.dt (h : DW X rc e tt ft) : DT X rc e tt ft := ⟨h.pe.pt, h.se⟩
theorem dw_and1 (h : DT X rc a tt ft) : DW X rc (.BoolOp .And [a] pos) tt ft := ⟨pw_and1 h.pe, h.se⟩
theorem dw_or1 (h : DT X rc a tt ft) : DW X rc (.BoolOp .Or [a] pos) tt ft := ⟨pw_or1 h.pe, h.se⟩
def mAnd (f g : MM Bool) : MM Bool := mBind f fun k => if k = true then g else mRet false
def mOr (f g : MM Bool) : MM Bool := mBind f fun k => if k = true then mRet true else g
theorem sem_and {K : PySem.W.Frag} (h1 : Sem K rc PT_ tt ft) (h2 : Sem K rc PT_ tt' ft') : Sem K rc PT_ (tAnd tt tt') (mAnd ft ft') := fun Hs0 H0 σ Hs H ρ R d w hf Q q => by
  obtain ⟨k, r1, h3, h4⟩ := mBind_some hf
  refine h1 Hs0 H0 σ Hs H ρ R k r1 h3 _ fun k' Hs1 H1 e1 w1 p1 => ?_
  cases p1
  cases k with
  | true =>
    rw [if_pos rfl] at h4 ⊢
    exact h2 Hs0 H0 σ Hs1 H1 _ (R.ext' e1 w1) d w h4 Q fun v Hs2 H2 e2 w2 p2 => q v Hs2 H2 (e1.trans e2) w2 p2
  | false =>
    rw [if_neg Bool.false_ne_true] at h4 ⊢
    cases h4
    exact q _ Hs1 H1 e1 w1 rfl
theorem sem_or {K : PySem.W.Frag} (h1 : Sem K rc PT_ tt ft) (h2 : Sem K rc PT_ tt' ft') : Sem K rc PT_ (tOr tt tt') (mOr ft ft') := fun Hs0 H0 σ Hs H ρ R d w hf Q q => by
  obtain ⟨k, r1, h3, h4⟩ := mBind_some hf
  refine h1 Hs0 H0 σ Hs H ρ R k r1 h3 _ fun k' Hs1 H1 e1 w1 p1 => ?_
  cases p1
  cases k with
  | false =>
    rw [if_neg Bool.false_ne_true] at h4 ⊢
    exact h2 Hs0 H0 σ Hs1 H1 _ (R.ext' e1 w1) d w h4 Q fun v Hs2 H2 e2 w2 p2 => q v Hs2 H2 (e1.trans e2) w2 p2
  | true =>
    rw [if_pos rfl] at h4 ⊢
    cases h4
    exact q _ Hs1 H1 e1 w1 rfl
theorem dw_and {rest : List Expr} (ha : DT X rc a tt ft) (hb : DW X rc (.BoolOp .And (b :: rest) pos) tt' ft') : DW X rc (.BoolOp .And (a :: b :: rest) pos) (tAnd tt tt') (mAnd ft ft') := ⟨pw_and ha.pe hb.pe, sem_and ha.se hb.se⟩
theorem dw_or {rest : List Expr} (ha : DT X rc a tt ft) (hb : DW X rc (.BoolOp .Or (b :: rest) pos) tt' ft') : DW X rc (.BoolOp .Or (a :: b :: rest) pos) (tOr tt tt') (mOr ft ft') := ⟨pw_or ha.pe hb.pe, sem_or ha.se hb.se⟩
/-- and, or, not as values -/
def mAndV (fa fb : MM D) : MM D := mBind (mTest fa) fun k => if k = true then fb else mRet (.bool false)
def mOrV (fa fb : MM D) : MM D := mBind (mTest fa) fun k => if k = true then mRet (.bool true) else fb
def mNotV (fa : MM D) : MM D := mBind (mTest fa) fun k => mRet (.bool (!k))
theorem de_one {op : BoolOp} (h : DE X rc a ta fa) : DE X rc (.BoolOp op [a] pos) ta fa := ⟨pe_one h.pe, h.se⟩
theorem de_and {rest : List Expr} (ha : DE X rc a ta fa) (hb : DE X rc (.BoolOp .And (b :: rest) pos) tb fb) : DE X rc (.BoolOp .And (a :: b :: rest) pos) (tAndV ta tb) (mAndV fa fb) := ⟨pe_and ha.pe hb.pe, fun Hs0 H0 σ Hs H ρ R d w hf Q q => by
  obtain ⟨k, r1, h3, h4⟩ := mBind_some hf
  refine ha.se Hs0 H0 σ Hs H ρ R _ r1 (mTest_some h3) _ fun k' Hs1 H1 e1 w1 p1 => ⟨k, p1.bl_inv, ?_⟩
  cases k with
  | true =>
    rw [if_pos rfl] at h4 ⊢
    exact hb.se Hs0 H0 σ Hs1 H1 _ (R.ext' e1 w1) d w h4 Q fun v Hs2 H2 e2 w2 p2 => q v Hs2 H2 (e1.trans e2) w2 p2
  | false =>
    rw [if_neg Bool.false_ne_true] at h4 ⊢
    cases h4
    exact q _ Hs1 H1 e1 w1 (.bl _)⟩
theorem de_or {rest : List Expr} (ha : DE X rc a ta fa) (hb : DE X rc (.BoolOp .Or (b :: rest) pos) tb fb) : DE X rc (.BoolOp .Or (a :: b :: rest) pos) (tOrV ta tb) (mOrV fa fb) := ⟨pe_or ha.pe hb.pe, fun Hs0 H0 σ Hs H ρ R d w hf Q q => by
  obtain ⟨k, r1, h3, h4⟩ := mBind_some hf
  refine ha.se Hs0 H0 σ Hs H ρ R _ r1 (mTest_some h3) _ fun k' Hs1 H1 e1 w1 p1 => ⟨k, p1.bl_inv, ?_⟩
  cases k with
  | false =>
    rw [if_neg Bool.false_ne_true] at h4 ⊢
    exact hb.se Hs0 H0 σ Hs1 H1 _ (R.ext' e1 w1) d w h4 Q fun v Hs2 H2 e2 w2 p2 => q v Hs2 H2 (e1.trans e2) w2 p2
  | true =>
    rw [if_pos rfl] at h4 ⊢
    cases h4
    exact q _ Hs1 H1 e1 w1 (.bl _)⟩
theorem de_not (ha : DE X rc a ta fa) : DE X rc (.UnaryOp .Not a pos) (tNotV ta) (mNotV fa) := ⟨pe_not ha.pe, fun Hs0 H0 σ Hs H ρ R d w hf Q q => by
  obtain ⟨k, r1, h3, h4⟩ := mBind_some hf
  cases h4
  exact ha.se Hs0 H0 σ Hs H ρ R _ _ (mTest_some h3) _ fun k' Hs1 H1 e1 w1 p1 => ⟨k, p1.bl_inv, q _ Hs1 H1 e1 w1 (.bl _)⟩⟩
/-! ### unary minus, None -/
def mUn (op : D → Option D) (fa : MM D) : MM D := mBind fa fun a => mO (op a)
def dNeg : D → Option D
  | .int i => some (.int (-i))
  | _ => none
theorem de_neg (ha : DB X rc m a ta fa) : DE X rc (.UnaryOp .USub a pos) (tUn (rU fun i => .int (-i)) ta) (mUn dNeg fa) := ⟨pe_un un_neg ha.pe, fun Hs0 H0 σ Hs H ρ R d w hf Q q => by
  obtain ⟨a, r1, h1, h2⟩ := mBind_some hf
  obtain ⟨h3, rfl⟩ := mO_some h2
  cases a with
  | int i =>
    cases h3
    exact ha.se Hs0 H0 σ Hs H ρ R _ _ h1 _ fun x Hs1 H1 e1 w1 p1 => ⟨i, p1.b.int_inv, q _ Hs1 H1 e1 w1 (.int _)⟩
  | _ => cases h3⟩
def dIsN : D → Bool
  | .none => true
  | _ => false
theorem Bp.isN {K : PySem.W.Frag} {Hs H : Hp} {v : V} {d : D} (h : Bp K Hs H v d) : decide (v = .non) = dIsN d := by
  cases h with
  | sh h => cases h <;> first | rfl | exact decide_eq_false (fun z => by cases z)
  | lst h r => exact decide_eq_false (fun z => by cases z)
theorem de_isN {j} {pos'} (ha : DB X rc m a ta fa) : DE X rc (.Compare a [.Is] [.Constant .none j pos'] pos) (tIsN ta) (mUn (fun d => some (.bool (dIsN d))) fa) := ⟨pe_cmp (pc_isN ha.pe), fun Hs0 H0 σ Hs H ρ R d w hf Q q => by
  obtain ⟨a, r1, h1, h2⟩ := mBind_some hf
  obtain ⟨h3, rfl⟩ := mO_some h2
  cases h3
  exact ha.se Hs0 H0 σ Hs H ρ R _ _ h1 _ fun x Hs1 H1 e1 w1 p1 => by
    show Q (V.bl (decide (x = .non))) H1
    rw [p1.b.isN]
    exact q _ Hs1 H1 e1 w1 (.bl _)⟩
theorem de_notN {j} {pos'} (ha : DB X rc m a ta fa) : DE X rc (.Compare a [.IsNot] [.Constant .none j pos'] pos) (tNotN ta) (mUn (fun d => some (.bool (!dIsN d))) fa) := ⟨pe_cmp (pc_notN ha.pe), fun Hs0 H0 σ Hs H ρ R d w hf Q q => by
  obtain ⟨a, r1, h1, h2⟩ := mBind_some hf
  obtain ⟨h3, rfl⟩ := mO_some h2
  cases h3
  exact ha.se Hs0 H0 σ Hs H ρ R _ _ h1 _ fun x Hs1 H1 e1 w1 p1 => by
    show Q (V.bl (!decide (x = .non))) H1
    rw [p1.b.isN]
    exact q _ Hs1 H1 e1 w1 (.bl _)⟩
end
end DL

namespace DL
open PySem PySem.Spec PyProof.Rows L2
/-! ### zip and enumerate over lists and tuples in any mix -/
/-- a source: a list (true) or a tuple (false), at an address -/
abbrev Src := Bool × Addr
def SqS (K : PySem.W.Frag) (H : Hp) (S : Src) (xs : List V) : Prop := if S.1 = true then SqL K H S.2 xs else SqT K H S.2 xs
def IsS (h : Heap) (S : Src) (its : Array Value) : Prop := if S.1 = true then h.IsList S.2 its else h.IsTuple S.2 its
def ItS (h : Heap) (it : Addr) (S : Src) (i : Nat) : Prop := if S.1 = true then h.IsListIter it S.2 i else h.IsTupleIter it S.2 i
section
variable {X : Cx} {pins : List (Addr × Obj)} {σ : L2.St} {H : Hp} {s : Shared} {S : Src} {xs ys : List V}
theorem _root_.L2.Inv.src (I : Inv X pins σ H s) (h : SqS X.K H S xs) : ∃ its : List Value, Vals xs its ∧ IsS s.heap S its.toArray ∧ xs.length ≤ sizeLine := by
  obtain ⟨k, a⟩ := S
  cases k with
  | true =>
    obtain ⟨its, r, p, z⟩ := I.list (show SqL X.K H a xs from h)
    exact ⟨its, r, p.isList, z⟩
  | false =>
    obtain ⟨its, r, p, z⟩ := I.tuple (show SqT X.K H a xs from h)
    exact ⟨its, r, p, z⟩
theorem _root_.L2.Inv.src_inj (I : Inv X pins σ H s) (h : SqS X.K H S xs) (h' : SqS X.K H S ys) : xs = ys := by
  obtain ⟨k, a⟩ := S
  cases k with
  | true => exact I.list_inj (show SqL X.K H a xs from h) h'
  | false => exact I.tuple_inj (show SqT X.K H a xs from h) h'
theorem IsS.lt {h : Heap} {its : Array Value} (x : IsS h S its) : S.2 < h.objs.size := by
  obtain ⟨k, a⟩ := S
  cases k with
  | true =>
    obtain ⟨o, e, _⟩ := (show h.IsList a its from x)
    exact Heap.lt_size e
  | false =>
    obtain ⟨o, e, _⟩ := (show h.IsTuple a its from x)
    exact Heap.lt_size e
theorem IsS.keep {h h' : Heap} {its : Array Value} (x : IsS h S its) (k : ∀ o, h.get? S.2 = some o → h'.get? S.2 = some o) : IsS h' S its := by
  obtain ⟨b, a⟩ := S
  cases b with
  | true => exact (show h.IsList a its from x).at k
  | false => exact (show h.IsTuple a its from x).at k
theorem ItS.keep {h h' : Heap} {it : Addr} {i : Nat} (x : ItS h it S i) (k : ∀ o, h.get? it = some o → h'.get? it = some o) : ItS h' it S i := by
  obtain ⟨b, a⟩ := S
  cases b with
  | true => exact (show h.IsListIter it a i from x).at k
  | false => exact (show h.IsTupleIter it a i from x).at k
theorem ItS.obj {h : Heap} {it : Addr} {i : Nat} (x : ItS h it S i) : ∃ o, h.get? it = some o ∧ ∀ v, o.data ≠ .cell v := by
  obtain ⟨b, a⟩ := S
  cases b with
  | true =>
    obtain ⟨o, e, _, d⟩ := (show h.IsListIter it a i from x)
    exact ⟨o, e, fun v q => by rw [d] at q; cases q⟩
  | false =>
    obtain ⟨o, e, _, d⟩ := (show h.IsTupleIter it a i from x)
    exact ⟨o, e, fun v q => by rw [d] at q; cases q⟩
theorem src_draws {prog : Program} {w : World} {A : Around} (hh : A.handled = none) (it : Addr) (hne : S.2 ≠ it) (items : Array Value) : Draws prog w A it [it, S.2] items.size (fun i v => items[i]? = some v) (fun i h => ItS h it S i ∧ IsS h S items) := by
  obtain ⟨k, a⟩ := S
  cases k with
  | true => exact Draws.list hh it a hne items
  | false => exact Draws.tuple hh it a hne items
def itO (S : Src) : Obj := if S.1 = true then { cls := .type "list_iterator", data := .fields #[.ref S.2, .int 0 0] } else { cls := .type "tuple_iterator", data := .fields #[.ref S.2, .int 0 0] }
theorem src_begins (S : Src) (items : Array Value) : Begins (.ref S.2) (itO S) fun h => IsS h S items := by
  obtain ⟨k, a⟩ := S
  cases k with
  | true => exact begins_list a items
  | false => exact begins_tuple a items
theorem itS_begin {h : Heap} {it : Addr} (e : h.get? it = some (itO S)) : ItS h it S 0 := by
  obtain ⟨k, a⟩ := S
  cases k with
  | true => exact ⟨_, e, rfl, rfl⟩
  | false => exact ⟨_, e, rfl, rfl⟩
end
/-- the general turn of an iterator that gives out new tuples -/
theorem turn_T {P : Program} {w : World} {K : PySem.W.Frag} {elts : List Expr} {kk : Nat} {tpos : Pos} {J : It} {fp wr : List Addr} {z : Addr} {TN : Nat → Heap → Prop} (mem : z ∈ fp) (wrfp : ∀ b ∈ wr, b ∈ fp)
    (obj : ∀ i h, TN i h → ∀ b ∈ fp, ∃ o, h.get? b = some o ∧ ∀ v, o.data ≠ .cell v)
    (keep : ∀ i h h', TN i h → (∀ b ∈ fp, ∀ o, h.get? b = some o → h'.get? b = some o) → TN i h')
    (go : ∀ (X : Cx), X.prog = P → X.w = w → X.K = K → X.calm = true → ∀ (i : Nat) (pins : List (Addr × Obj)) (s : Shared) (σ : L2.St) (H : Hp), Inv X pins σ H s → (∀ b ∈ fp, H b = none) → TN i s.heap → J.go i H →
      ∃ FP n Pt St Mid, WalksT P w X.A z FP wr n Pt St Mid ∧ i < n ∧ St i s.heap ∧ (∀ j h', St j h' → TN j h') ∧ ∀ vals : Array Value, Pt i vals → ∃ vs : List V, Vals vs vals.toList ∧ vs.length ≤ sizeLine ∧ ∀ T, H T = none → J.yld i H (.ref T) (upd H T (.tup vs)))
    (stop : ∀ (X : Cx), X.prog = P → X.w = w → X.K = K → X.calm = true → ∀ (i : Nat) (pins : List (Addr × Obj)) (s : Shared) (σ : L2.St) (H : Hp), Inv X pins σ H s → (∀ b ∈ fp, H b = none) → TN i s.heap → J.stop i H →
      ∃ FP Pt St Mid, WalksT P w X.A z FP wr i Pt St Mid ∧ St i s.heap)
    (self : ∀ (A : Around) (i : Nat) (s : Shared) (Q : Value → Shared → Prop) (E : Value → Shared → Prop), TN i s.heap → Q (.ref z) s → wpAny (model P w) A (pyIter (.ref z)) Q E s) :
    Turn P w K (.Tuple elts kk tpos) J fp z TN where
  mem := mem
  obj := obj
  keep := keep
  item := by
    intro X hP hw hK hc i pins s σ H E I hf st hg
    obtain ⟨FP, n, Pt, St, Mid, W, hi, hst, hTN, hy⟩ := go X hP hw hK hc i pins s σ H I (fun b hb => (hf b hb).1) st hg
    refine W.item i s _ E hi hst fun T vals h' tk hP' hn hT hM hk => ⟨.ref T, rfl, ?_⟩
    refine W.go elts kk tpos i T { s with heap := h', toks := tk } _ E hM fun h2 hst2 hk2 => ?_
    obtain ⟨vs, hv, hl, hyl⟩ := hy vals hP'
    have hT2 : h2.IsTuple T vals := hT.at fun o e => hk2 T o (W.apart i T h' hM) e
    have hTn : H T = none := I.hok.fresh hn
    have new : ObjOk X.prog X.w (upd H T (.tup vs)) h2 T (.tup vs) := ⟨hl, vals.toList, hv, by rw [show vals.toList.toArray = vals by simp]; exact hT2⟩
    have I1 : Inv X pins σ (upd H T (.tup vs)) { s with heap := h2, toks := tk } :=
      I.turnedNew (t' := tk) (ch := fp) (fun c o hb q => hk2 c o (fun z => hb (wrfp c z)) (hk c o (fun z => hb (wrfp c z)) q)) hf hn new
    refine ⟨.ref T, _, I1, rfl, hyl T hTn, hTN _ _ hst2, fun b hb => ?_⟩
    obtain ⟨o, e, _⟩ := obj i s.heap st b hb
    have ne : b ≠ T := Nat.ne_of_lt (Nat.lt_of_lt_of_le (Heap.lt_size e) hn)
    rw [upd_ne ne]
    exact (hf b hb).1
  done := by
    intro X hP hw hK hc i pins s σ H E I hf st hg
    obtain ⟨FP, Pt, St, Mid, W, hst⟩ := stop X hP hw hK hc i pins s σ H I (fun b hb => (hf b hb).1) st hg
    refine W.done s _ E hst fun h' tk hk => ⟨rfl, ?_⟩
    exact I.turnedL (t' := tk) (ch := fp) (fun c o hb q => hk c o (fun z => hb (wrfp c z)) q) hf
  self := self
/-! ### zip of two -/
def Itz2 (K : PySem.W.Frag) (S1 S2 : Src) : It :=
  ⟨fun i H => ∃ (xs ys : List V) (x y : V), SqS K H S1 xs ∧ SqS K H S2 ys ∧ xs[i]? = some x ∧ ys[i]? = some y,
    fun i H v H' => ∃ T x y, v = .ref T ∧ H T = none ∧ H' = upd H T (.tup [x, y]) ∧ (∀ xs, SqS K H S1 xs → xs[i]? = some x) ∧ ∀ ys, SqS K H S2 ys → ys[i]? = some y,
    fun i H => ∃ xs ys : List V, SqS K H S1 xs ∧ SqS K H S2 ys ∧ i = min xs.length ys.length⟩
theorem vals_at {xs : List V} {its : List Value} {i : Nat} {u : Value} (r : Vals xs its) (h : its.toArray[i]? = some u) : ∃ x, xs[i]? = some x ∧ RelV x u := by
  have h' : its[i]? = some u := by simpa using h
  cases e : xs[i]? with
  | none =>
    rw [r.none_of e] at h'
    cases h'
  | some x =>
    obtain ⟨u', h1, h2⟩ := r.get e
    rw [h'] at h1
    cases h1
    exact ⟨x, rfl, h2⟩
theorem turn_zip2 {P : Program} {w : World} {K : PySem.W.Frag} {elts : List Expr} {kk : Nat} {tpos : Pos} {S1 S2 : Src} {N : Nat} (h1 : S1.2 < N) (h2 : S2.2 < N) :
    Turn P w K (.Tuple elts kk tpos) (Itz2 K S1 S2) [N + 4, N + 2, N + 3, N, N + 1] (N + 4) (fun i h => IsZip h (N + 4) (N + 2) (N + 3) .none ∧ IsTupOf2 h (N + 2) (.ref N) (.ref (N + 1)) ∧ (∃ a1 a2, IsTupOf2 h (N + 3) a1 a2) ∧ ItS h N S1 i ∧ ItS h (N + 1) S2 i) := by
  have Sp : ZipSep2 (N + 4) (N + 2) (N + 3) N (N + 1) [N, S1.2] [N + 1, S2.2] := zip_sep2 (fp1 := [S1.2]) (fp2 := [S2.2]) (fun b hb => by rw [List.mem_singleton.mp hb]; exact h1) (fun b hb => by rw [List.mem_singleton.mp hb]; exact h2)
  have n1 : S1.2 ≠ N := Nat.ne_of_lt h1
  have n2 : S2.2 ≠ N + 1 := Nat.ne_of_lt (Nat.lt_succ_of_lt h2)
  refine turn_T (wr := [N + 4, N + 3, N, N + 1]) (by simp) (fun b hb => by
      have e : b = N + 4 ∨ b = N + 3 ∨ b = N ∨ b = N + 1 := by simpa using hb
      rcases e with e | e | e | e <;> rw [e] <;> simp) ?_ ?_ ?_ ?_ ?_
  · intro i h st b hb
    obtain ⟨hz, hTI, ⟨x, y, hTO⟩, a1, a2⟩ := st
    have e : b = N + 4 ∨ b = N + 2 ∨ b = N + 3 ∨ b = N ∨ b = N + 1 := by simpa using hb
    rcases e with e | e | e | e | e
    · rw [e]; exact ⟨_, hz, fun v q => nomatch q⟩
    · rw [e]; exact ⟨_, hTI, fun v q => nomatch q⟩
    · rw [e]; exact ⟨_, hTO, fun v q => nomatch q⟩
    · rw [e]; exact a1.obj
    · rw [e]; exact a2.obj
  · intro i h h' st k
    obtain ⟨hz, hTI, ⟨x, y, hTO⟩, a1, a2⟩ := st
    exact ⟨k _ (by simp) _ hz, k _ (by simp) _ hTI, ⟨x, y, k _ (by simp) _ hTO⟩, a1.keep fun o q => k N (by simp) o q, a2.keep fun o q => k (N + 1) (by simp) o q⟩
  · intro X hP hw hK hc i pins s σ H I hn st hg
    subst hP hw hK
    obtain ⟨hz, hTI, hTO, a1, a2⟩ := st
    obtain ⟨xs, ys, x, y, hqx, hqy, hx, hy⟩ := hg
    obtain ⟨its, rv, p, _⟩ := I.src hqx
    obtain ⟨its2, rv2, p2, _⟩ := I.src hqy
    have l1 : i < its.toArray.size := by
      have := (List.getElem?_eq_some_iff.mp hx).1
      rw [List.size_toArray, ← rv.length]; exact this
    have l2 : i < its2.toArray.size := by
      have := (List.getElem?_eq_some_iff.mp hy).1
      rw [List.size_toArray, ← rv2.length]; exact this
    refine ⟨_, _, _, _, _, WalksT.zipD2 Sp (src_draws (A := X.A.in1) (I.ok.hd hc) N n1 its.toArray) (src_draws (A := X.A.in1) (I.ok.hd hc) (N + 1) n2 its2.toArray), by omega, ⟨hz, hTI, hTO, ⟨a1, p⟩, ⟨a2, p2⟩⟩, fun j h' q => ⟨q.1, q.2.1, q.2.2.1, q.2.2.2.1.1, q.2.2.2.2.1⟩, fun vals hv => ?_⟩
    obtain ⟨x1, x2, q1, q2, rfl⟩ := hv
    obtain ⟨z1, e1, r1⟩ := vals_at rv q1
    obtain ⟨z2, e2, r2⟩ := vals_at rv2 q2
    exact ⟨[z1, z2], .cons r1 (.cons r2 .nil), by show 2 ≤ sizeLine; decide, fun T hT => ⟨T, z1, z2, rfl, hT, rfl, fun l hl => by rw [I.src_inj hl hqx]; exact e1, fun l hl => by rw [I.src_inj hl hqy]; exact e2⟩⟩
  · intro X hP hw hK hc i pins s σ H I hn st hg
    subst hP hw hK
    obtain ⟨hz, hTI, hTO, a1, a2⟩ := st
    obtain ⟨xs, ys, hqx, hqy, hi⟩ := hg
    obtain ⟨its, rv, p, _⟩ := I.src hqx
    obtain ⟨its2, rv2, p2, _⟩ := I.src hqy
    have e : i = min its.toArray.size its2.toArray.size := by
      rw [List.size_toArray, List.size_toArray, ← rv.length, ← rv2.length]; exact hi
    have W := WalksT.zipD2 (prog := X.prog) (w := X.w) (A := X.A) Sp (src_draws (A := X.A.in1) (I.ok.hd hc) N n1 its.toArray) (src_draws (A := X.A.in1) (I.ok.hd hc) (N + 1) n2 its2.toArray)
    rw [← e] at W
    exact ⟨_, _, _, _, W, ⟨hz, hTI, hTO, ⟨a1, p⟩, ⟨a2, p2⟩⟩⟩
  · intro A i s Q E st h
    exact wpAny_pyIter_zip st.1 h
/-! ### zip of three -/
def Itz3 (K : PySem.W.Frag) (S1 S2 S3 : Src) : It :=
  ⟨fun i H => ∃ (xs ys us : List V) (x y u : V), SqS K H S1 xs ∧ SqS K H S2 ys ∧ SqS K H S3 us ∧ xs[i]? = some x ∧ ys[i]? = some y ∧ us[i]? = some u,
    fun i H v H' => ∃ T x y u, v = .ref T ∧ H T = none ∧ H' = upd H T (.tup [x, y, u]) ∧ (∀ xs, SqS K H S1 xs → xs[i]? = some x) ∧ (∀ ys, SqS K H S2 ys → ys[i]? = some y) ∧ ∀ us, SqS K H S3 us → us[i]? = some u,
    fun i H => ∃ xs ys us : List V, SqS K H S1 xs ∧ SqS K H S2 ys ∧ SqS K H S3 us ∧ i = min (min xs.length ys.length) us.length⟩
theorem turn_zip3 {P : Program} {w : World} {K : PySem.W.Frag} {elts : List Expr} {kk : Nat} {tpos : Pos} {S1 S2 S3 : Src} {N : Nat} (h1 : S1.2 < N) (h2 : S2.2 < N) (h3 : S3.2 < N) :
    Turn P w K (.Tuple elts kk tpos) (Itz3 K S1 S2 S3) [N + 5, N + 3, N + 4, N, N + 1, N + 2] (N + 5) (fun i h => IsZip h (N + 5) (N + 3) (N + 4) .none ∧ IsTupOf3 h (N + 3) (.ref N) (.ref (N + 1)) (.ref (N + 2)) ∧ (∃ a1 a2 a3, IsTupOf3 h (N + 4) a1 a2 a3) ∧ ItS h N S1 i ∧ ItS h (N + 1) S2 i ∧ ItS h (N + 2) S3 i) := by
  have Sp : ZipSep3 (N + 5) (N + 3) (N + 4) N (N + 1) (N + 2) [N, S1.2] [N + 1, S2.2] [N + 2, S3.2] := zip_sep3 (fp1 := [S1.2]) (fp2 := [S2.2]) (fp3 := [S3.2]) (fun b hb => by rw [List.mem_singleton.mp hb]; exact h1) (fun b hb => by rw [List.mem_singleton.mp hb]; exact h2) (fun b hb => by rw [List.mem_singleton.mp hb]; exact h3)
  have n1 : S1.2 ≠ N := Nat.ne_of_lt h1
  have n2 : S2.2 ≠ N + 1 := Nat.ne_of_lt (Nat.lt_succ_of_lt h2)
  have n3 : S3.2 ≠ N + 2 := Nat.ne_of_lt (Nat.lt_succ_of_lt (Nat.lt_succ_of_lt h3))
  refine turn_T (wr := [N + 5, N + 4, N, N + 1, N + 2]) (by simp) (fun b hb => by
      have e : b = N + 5 ∨ b = N + 4 ∨ b = N ∨ b = N + 1 ∨ b = N + 2 := by simpa using hb
      rcases e with e | e | e | e | e <;> rw [e] <;> simp) ?_ ?_ ?_ ?_ ?_
  · intro i h st b hb
    obtain ⟨hz, hTI, ⟨x, y, u, hTO⟩, a1, a2, a3⟩ := st
    have e : b = N + 5 ∨ b = N + 3 ∨ b = N + 4 ∨ b = N ∨ b = N + 1 ∨ b = N + 2 := by simpa using hb
    rcases e with e | e | e | e | e | e
    · rw [e]; exact ⟨_, hz, fun v q => nomatch q⟩
    · rw [e]; exact ⟨_, hTI, fun v q => nomatch q⟩
    · rw [e]; exact ⟨_, hTO, fun v q => nomatch q⟩
    · rw [e]; exact a1.obj
    · rw [e]; exact a2.obj
    · rw [e]; exact a3.obj
  · intro i h h' st k
    obtain ⟨hz, hTI, ⟨x, y, u, hTO⟩, a1, a2, a3⟩ := st
    exact ⟨k _ (by simp) _ hz, k _ (by simp) _ hTI, ⟨x, y, u, k _ (by simp) _ hTO⟩, a1.keep fun o q => k N (by simp) o q, a2.keep fun o q => k (N + 1) (by simp) o q, a3.keep fun o q => k (N + 2) (by simp) o q⟩
  · intro X hP hw hK hc i pins s σ H I hn st hg
    subst hP hw hK
    obtain ⟨hz, hTI, hTO, a1, a2, a3⟩ := st
    obtain ⟨xs, ys, us, x, y, u, hqx, hqy, hqu, hx, hy, hu⟩ := hg
    obtain ⟨its, rv, p, _⟩ := I.src hqx
    obtain ⟨its2, rv2, p2, _⟩ := I.src hqy
    obtain ⟨its3, rv3, p3, _⟩ := I.src hqu
    have l1 : i < its.toArray.size := by
      have := (List.getElem?_eq_some_iff.mp hx).1
      rw [List.size_toArray, ← rv.length]; exact this
    have l2 : i < its2.toArray.size := by
      have := (List.getElem?_eq_some_iff.mp hy).1
      rw [List.size_toArray, ← rv2.length]; exact this
    have l3 : i < its3.toArray.size := by
      have := (List.getElem?_eq_some_iff.mp hu).1
      rw [List.size_toArray, ← rv3.length]; exact this
    refine ⟨_, _, _, _, _, WalksT.zipD3 Sp (src_draws (A := X.A.in1) (I.ok.hd hc) N n1 its.toArray) (src_draws (A := X.A.in1) (I.ok.hd hc) (N + 1) n2 its2.toArray) (src_draws (A := X.A.in1) (I.ok.hd hc) (N + 2) n3 its3.toArray), by omega, ⟨hz, hTI, hTO, ⟨a1, p⟩, ⟨a2, p2⟩, ⟨a3, p3⟩⟩, fun j h' q => ⟨q.1, q.2.1, q.2.2.1, q.2.2.2.1.1, q.2.2.2.2.1.1, q.2.2.2.2.2.1⟩, fun vals hv => ?_⟩
    obtain ⟨x1, x2, x3, q1, q2, q3, rfl⟩ := hv
    obtain ⟨z1, e1, r1⟩ := vals_at rv q1
    obtain ⟨z2, e2, r2⟩ := vals_at rv2 q2
    obtain ⟨z3, e3, r3⟩ := vals_at rv3 q3
    exact ⟨[z1, z2, z3], .cons r1 (.cons r2 (.cons r3 .nil)), by show 3 ≤ sizeLine; decide, fun T hT => ⟨T, z1, z2, z3, rfl, hT, rfl, fun l hl => by rw [I.src_inj hl hqx]; exact e1, fun l hl => by rw [I.src_inj hl hqy]; exact e2, fun l hl => by rw [I.src_inj hl hqu]; exact e3⟩⟩
  · intro X hP hw hK hc i pins s σ H I hn st hg
    subst hP hw hK
    obtain ⟨hz, hTI, hTO, a1, a2, a3⟩ := st
    obtain ⟨xs, ys, us, hqx, hqy, hqu, hi⟩ := hg
    obtain ⟨its, rv, p, _⟩ := I.src hqx
    obtain ⟨its2, rv2, p2, _⟩ := I.src hqy
    obtain ⟨its3, rv3, p3, _⟩ := I.src hqu
    have e : i = min (min its.toArray.size its2.toArray.size) its3.toArray.size := by
      rw [List.size_toArray, List.size_toArray, List.size_toArray, ← rv.length, ← rv2.length, ← rv3.length]; exact hi
    have W := WalksT.zipD3 (prog := X.prog) (w := X.w) (A := X.A) Sp (src_draws (A := X.A.in1) (I.ok.hd hc) N n1 its.toArray) (src_draws (A := X.A.in1) (I.ok.hd hc) (N + 1) n2 its2.toArray) (src_draws (A := X.A.in1) (I.ok.hd hc) (N + 2) n3 its3.toArray)
    rw [← e] at W
    exact ⟨_, _, _, _, W, ⟨hz, hTI, hTO, ⟨a1, p⟩, ⟨a2, p2⟩, ⟨a3, p3⟩⟩⟩
  · intro A i s Q E st h
    exact wpAny_pyIter_zip st.1 h
/-! ### enumerate -/
def Ite1 (K : PySem.W.Frag) (S : Src) : It :=
  ⟨fun i H => ∃ (xs : List V) (x : V), SqS K H S xs ∧ xs[i]? = some x,
    fun i H v H' => ∃ T x, v = .ref T ∧ H T = none ∧ H' = upd H T (.tup [.int (i : Nat), x]) ∧ ∀ xs, SqS K H S xs → xs[i]? = some x,
    fun i H => ∃ xs : List V, SqS K H S xs ∧ i = xs.length⟩
theorem turn_enum1 {P : Program} {w : World} {K : PySem.W.Frag} {elts : List Expr} {kk : Nat} {tpos : Pos} {S : Src} {N : Nat} (h1 : S.2 < N) :
    Turn P w K (.Tuple elts kk tpos) (Ite1 K S) [N + 1, N] (N + 1) (fun i h => (∃ old, IsEnum h (N + 1) N (0 + (i : Int)) old) ∧ ItS h N S i) := by
  have n1 : S.2 ≠ N := Nat.ne_of_lt h1
  have nef : N + 1 ∉ [N, S.2] := by
    intro hb
    have e : N + 1 = N ∨ N + 1 = S.2 := by simpa using hb
    rcases e with e | e
    · exact absurd e (Nat.succ_ne_self N)
    · rw [← e] at h1
      exact absurd h1 (Nat.not_lt.mpr (Nat.le_succ N))
  refine turn_T (wr := [N + 1, N]) (by simp) (fun b hb => hb) ?_ ?_ ?_ ?_ ?_
  · intro i h st b hb
    obtain ⟨⟨old, hz⟩, a1⟩ := st
    have e : b = N + 1 ∨ b = N := by simpa using hb
    rcases e with e | e
    · rw [e]; exact ⟨_, hz, fun v q => nomatch q⟩
    · rw [e]; exact a1.obj
  · intro i h h' st k
    obtain ⟨⟨old, hz⟩, a1⟩ := st
    exact ⟨⟨old, k _ (by simp) _ hz⟩, a1.keep fun o q => k N (by simp) o q⟩
  · intro X hP hw hK hc i pins s σ H I hn st hg
    subst hP hw hK
    obtain ⟨hz, a1⟩ := st
    obtain ⟨xs, x, hqx, hx⟩ := hg
    obtain ⟨its, rv, p, _⟩ := I.src hqx
    have l1 : i < its.toArray.size := by
      have := (List.getElem?_eq_some_iff.mp hx).1
      rw [List.size_toArray, ← rv.length]; exact this
    refine ⟨_, _, _, _, _, WalksT.enumFrom 0 (src_draws (A := X.A.in1) (I.ok.hd hc) N n1 its.toArray) (N + 1) (Nat.succ_ne_self N) nef (by simp), l1, ⟨hz, ⟨a1, p⟩⟩, fun j h' q => ⟨q.1, q.2.1⟩, fun vals hv => ?_⟩
    obtain ⟨t, x1, q1, rfl⟩ := hv
    obtain ⟨z1, e1, r1⟩ := vals_at rv q1
    exact ⟨[.int (i : Nat), z1], .cons ⟨t, by rw [Int.zero_add]⟩ (.cons r1 .nil), by show 2 ≤ sizeLine; decide, fun T hT => ⟨T, z1, rfl, hT, rfl, fun l hl => by rw [I.src_inj hl hqx]; exact e1⟩⟩
  · intro X hP hw hK hc i pins s σ H I hn st hg
    subst hP hw hK
    obtain ⟨hz, a1⟩ := st
    obtain ⟨xs, hqx, hi⟩ := hg
    obtain ⟨its, rv, p, _⟩ := I.src hqx
    have e : i = its.toArray.size := by
      rw [List.size_toArray, ← rv.length]; exact hi
    have W := WalksT.enumFrom (prog := X.prog) (w := X.w) (A := X.A) 0 (src_draws (A := X.A.in1) (I.ok.hd hc) N n1 its.toArray) (N + 1) (Nat.succ_ne_self N) nef (by simp)
    rw [← e] at W
    exact ⟨_, _, _, _, W, ⟨hz, ⟨a1, p⟩⟩⟩
  · intro A i s Q E st h
    obtain ⟨⟨old, hz⟩, _⟩ := st
    exact wpAny_pyIter_enum hz h
theorem meets_enum1 {v : Value} {o : Obj} {H : Heap → Prop} (B : Begins v o H) :
    Meets (Builtin.«enumerate.__new__» ⟨[.type "enumerate", v], []⟩) (fun _ R s => H s.heap ∧
      R (.ok (.ret (.ref (s.heap.push o).objs.size))) { s with heap := (s.heap.push o).push { cls := .type "enumerate", data := .fields #[.none, .bool false, .ref s.heap.objs.size, rawInt 0, .none, .none] } }) :=
  .of_wp fun prog w A R s h => by
    obtain ⟨hp, g, d, tk, os⟩ := s; obtain ⟨h1, h⟩ := h
    have hsub := sub_enumerate
    have q1 : ∀ {A' : Around} {E : Value → Shared → Prop} {Q : Value → Shared → Prop}, Q (.ref hp.objs.size) ⟨hp.push o, g, d, tk, os⟩ → wpAny (model prog w) A' (pyIter v) Q E ⟨hp, g, d, tk, os⟩ :=
      fun q => B.iter prog w _ _ ⟨hp, g, d, tk, os⟩ _ h1 q
    wp_walk using q1
    refine wpAny_stack_any fun st => wpAny_pure ?_
    split
    · rename_i c _ _ _ _ _
      cases (c == Value.type "enumerate")
      · wp_walk using q1
        exact ⟨_, rfl, h⟩
      · wp_walk using q1
        exact ⟨_, rfl, h⟩
    · wp_walk using q1
      exact ⟨_, rfl, h⟩
theorem enum1_begins {prog : Program} {w : World} {A : Around} {E : Value → Shared → Prop} {s : Shared} {v : Value} {o : Obj} {H : Heap → Prop} {Q : Value → Shared → Prop} (B : Begins v o H) (h1 : H s.heap)
    (h : ∀ h', IsEnum h' (s.heap.objs.size + 1) s.heap.objs.size 0 .none → h'.get? s.heap.objs.size = some o → h'.objs.size = s.heap.objs.size + 2 →
      (∀ b o, s.heap.get? b = some o → h'.get? b = some o) → Q (.ref (s.heap.objs.size + 1)) { s with heap := h' }) :
    wpAny (model prog w) A (call (.type "enumerate") [v]) Q E s := by
  refine callType_new F.called_enumerate (by decide) (F.typeCall_enumerate_1 _) (F.newCall_enumerate_1 _) (fun obj => F.args_object_init_2 obj _) F.entry_enumerate_new
    (meets_enum1 B) ⟨h1, ?_⟩
  have hz : (s.heap.push o).objs.size = s.heap.objs.size + 1 := Heap.size_push ..
  show _ ∧ _
  rw [hz]
  have he : IsEnum ((s.heap.push o).push { cls := .type "enumerate", data := .fields #[.none, .bool false, .ref s.heap.objs.size, rawInt 0, .none, .none] }) (s.heap.objs.size + 1) s.heap.objs.size 0 .none := by
    have := Heap.get?_push_size (s.heap.push o) (o := { cls := .type "enumerate", data := .fields #[.none, .bool false, .ref s.heap.objs.size, rawInt 0, .none, .none] }) rfl
    rw [hz] at this; exact this
  refine ⟨⟨_, he, rfl⟩, h _ he (Heap.get?_push_of_some _ (Heap.get?_push_size _ B.free)) (by rw [Heap.size_push, hz]) fun b o x => Heap.get?_push_of_some _ (Heap.get?_push_of_some _ x)⟩
/-! ### they come -/
section
variable {X : Cx} {tg e e2 e3 : Expr} {ta : TA} {p pos tpos : Pos} {elts : List Expr} {kk : Nat}
theorem _root_.L2.Inv.fpNew {pins : List (Addr × Obj)} {σ : L2.St} {H : Hp} {s : Shared} {h' : Heap} (I : Inv X pins σ H s) (fp : List Addr) (hfp : ∀ b ∈ fp, s.heap.objs.size ≤ b) : ∀ b ∈ fp, FpOk X pins H b := fun b hb => I.fpOk (hfp b hb) (I.hok.fresh (hfp b hb))
def iZip2 (K : PySem.W.Frag) (ta : TA) : TI := fun σ H R => ta σ H fun vs H1 => ∃ (S1 S2 : Src) (xs ys : List V), vs = [.ref S1.2, .ref S2.2] ∧ SqS K H1 S1 xs ∧ SqS K H1 S2 ys ∧ R (Itz2 K S1 S2) H1
theorem pi_zip2 (hg : Gl X "zip") (hm : X.mg "zip" = none) (ha : PA X [e, e2] ta)
    (hs : starEach [e, e2] X.env = (false, eval e X.env) :: starEach [e2] X.env := by rfl) (hpl : (backTo pos (starEach [e2] X.env)).any (·.1) = false := by rfl) :
    PI X (.Tuple elts kk tpos) (.Call (.Name "zip" p) [e, e2] [] pos) (iZip2 X.K ta) := by
  refine ⟨fun pins s σ H R I h => ?_⟩
  refine Call_ (ld_blt I hg hm PyProof.Rows.boot_zip (PyProof.Rows.callWith_type1 (thn (ha.run pos pins s σ H _ I h) fun us s1 ⟨vs, H1, I1, r1, q1⟩ => ?_) hs hpl))
  obtain ⟨S1, S2, xs, ys, ex, hqx, hqy, q⟩ := q1
  subst ex
  cases r1 with
  | cons r rr =>
    cases rr with
    | cons r' rr =>
      cases rr
      cases r
      cases r'
      obtain ⟨its, rv, p1, _⟩ := I1.src hqx
      obtain ⟨its2, rv2, p2, _⟩ := I1.src hqy
      refine zip_begins2 (src_begins S1 its.toArray) (src_begins S2 its2.toArray) p1 p2 fun h' hz hTI hTO h1 h2 hsz hk => wpAny_pyIter_zip hz ?_
      have I2 : Inv X pins σ H1 { s1 with heap := h' } := I1.kept (t' := s1.toks) hk
      refine ⟨s1.heap.objs.size + 4, [s1.heap.objs.size + 4, s1.heap.objs.size + 2, s1.heap.objs.size + 3, s1.heap.objs.size, s1.heap.objs.size + 1], _, _, H1, rfl, I2, turn_zip2 p1.lt p2.lt, ⟨hz, hTI, ⟨_, _, hTO⟩, itS_begin h1, itS_begin h2⟩, I1.fpNew (h' := h') _ fun c hcm => ?_, q⟩
      have e' : c = s1.heap.objs.size + 4 ∨ c = s1.heap.objs.size + 2 ∨ c = s1.heap.objs.size + 3 ∨ c = s1.heap.objs.size ∨ c = s1.heap.objs.size + 1 := by simpa using hcm
      rcases e' with z | z | z | z | z
      · rw [z]; exact Nat.le_add_right _ _
      · rw [z]; exact Nat.le_add_right _ _
      · rw [z]; exact Nat.le_add_right _ _
      · rw [z]; exact Nat.le_refl _
      · rw [z]; exact Nat.le_add_right _ _
def iZip3 (K : PySem.W.Frag) (ta : TA) : TI := fun σ H R => ta σ H fun vs H1 => ∃ (S1 S2 S3 : Src) (xs ys us : List V), vs = [.ref S1.2, .ref S2.2, .ref S3.2] ∧ SqS K H1 S1 xs ∧ SqS K H1 S2 ys ∧ SqS K H1 S3 us ∧ R (Itz3 K S1 S2 S3) H1
theorem pi_zip3 (hg : Gl X "zip") (hm : X.mg "zip" = none) (ha : PA X [e, e2, e3] ta)
    (hs : starEach [e, e2, e3] X.env = (false, eval e X.env) :: starEach [e2, e3] X.env := by rfl) (hpl : (backTo pos (starEach [e2, e3] X.env)).any (·.1) = false := by rfl) :
    PI X (.Tuple elts kk tpos) (.Call (.Name "zip" p) [e, e2, e3] [] pos) (iZip3 X.K ta) := by
  refine ⟨fun pins s σ H R I h => ?_⟩
  refine Call_ (ld_blt I hg hm PyProof.Rows.boot_zip (PyProof.Rows.callWith_type1 (thn (ha.run pos pins s σ H _ I h) fun us s1 ⟨vs, H1, I1, r1, q1⟩ => ?_) hs hpl))
  obtain ⟨S1, S2, S3, xs, ys, zs, ex, hqx, hqy, hqz, q⟩ := q1
  subst ex
  cases r1 with
  | cons r rr =>
    cases rr with
    | cons r' rr =>
      cases rr with
      | cons r'' rr =>
        cases rr
        cases r
        cases r'
        cases r''
        obtain ⟨its, rv, p1, _⟩ := I1.src hqx
        obtain ⟨its2, rv2, p2, _⟩ := I1.src hqy
        obtain ⟨its3, rv3, p3, _⟩ := I1.src hqz
        refine zip_begins3 (src_begins S1 its.toArray) (src_begins S2 its2.toArray) (src_begins S3 its3.toArray) p1 p2 p3 fun h' hz hTI hTO h1 h2 h3 hsz hk => wpAny_pyIter_zip hz ?_
        have I2 : Inv X pins σ H1 { s1 with heap := h' } := I1.kept (t' := s1.toks) hk
        refine ⟨s1.heap.objs.size + 5, [s1.heap.objs.size + 5, s1.heap.objs.size + 3, s1.heap.objs.size + 4, s1.heap.objs.size, s1.heap.objs.size + 1, s1.heap.objs.size + 2], _, _, H1, rfl, I2, turn_zip3 p1.lt p2.lt p3.lt, ⟨hz, hTI, ⟨_, _, _, hTO⟩, itS_begin h1, itS_begin h2, itS_begin h3⟩, I1.fpNew (h' := h') _ fun c hcm => ?_, q⟩
        have e' : c = s1.heap.objs.size + 5 ∨ c = s1.heap.objs.size + 3 ∨ c = s1.heap.objs.size + 4 ∨ c = s1.heap.objs.size ∨ c = s1.heap.objs.size + 1 ∨ c = s1.heap.objs.size + 2 := by simpa using hcm
        rcases e' with z | z | z | z | z | z
        · rw [z]; exact Nat.le_add_right _ _
        · rw [z]; exact Nat.le_add_right _ _
        · rw [z]; exact Nat.le_add_right _ _
        · rw [z]; exact Nat.le_refl _
        · rw [z]; exact Nat.le_add_right _ _
        · rw [z]; exact Nat.le_add_right _ _
def iEnum1 (K : PySem.W.Frag) (ta : TA) : TI := fun σ H R => ta σ H fun vs H1 => ∃ (S : Src) (xs : List V), vs = [.ref S.2] ∧ SqS K H1 S xs ∧ R (Ite1 K S) H1
theorem pi_enum1 (hg : Gl X "enumerate") (hm : X.mg "enumerate" = none) (ha : PA X [e] ta) (hs : starEach [e] X.env = [(false, eval e X.env)] := by rfl) :
    PI X (.Tuple elts kk tpos) (.Call (.Name "enumerate" p) [e] [] pos) (iEnum1 X.K ta) := by
  refine ⟨fun pins s σ H R I h => ?_⟩
  refine Call_ (ld_blt I hg hm boot_enumerate (PyProof.Rows.callWith_type1 (thn (ha.run pos pins s σ H _ I h) fun us s1 ⟨vs, H1, I1, r1, q1⟩ => ?_) hs rfl))
  obtain ⟨S, xs, ex, hq, q⟩ := q1
  subst ex
  cases r1 with
  | cons r rr =>
    cases rr
    cases r
    obtain ⟨its, rv, p', hz⟩ := I1.src hq
    refine enum1_begins (src_begins S its.toArray) p' fun h' he hit hsz hk => wpAny_pyIter_enum he ?_
    have I2 : Inv X pins σ H1 { s1 with heap := h' } := I1.kept (t' := s1.toks) hk
    refine ⟨s1.heap.objs.size + 1, [s1.heap.objs.size + 1, s1.heap.objs.size], _, _, H1, rfl, I2, turn_enum1 p'.lt, ⟨⟨.none, he⟩, itS_begin hit⟩, I1.fpNew (h' := h') _ fun b hb => ?_, q⟩
    have e' : b = s1.heap.objs.size + 1 ∨ b = s1.heap.objs.size := by simpa using hb
    rcases e' with z | z
    · rw [z]; exact Nat.le_add_right _ _
    · rw [z]; exact Nat.le_refl _
end
end DL

namespace DL
open PySem PySem.Spec PyProof.Rows L2
/-! ### what is walked -/
structure IsW (K : PySem.W.Frag) (rc : Rc) (m : Bool) (H0 Hs H : Hp) (J : It) (ds : List D) : Prop where
  go : ∀ i Hs2 H2, Same Hs Hs2 → Same Hs2 H2 → (Kp rc H H2 ∨ m = true ∧ Kp rc H0 H2) → i < ds.length → J.go i H2
  stop : ∀ Hs2 H2, Same Hs Hs2 → Same Hs2 H2 → (Kp rc H H2 ∨ m = true ∧ Kp rc H0 H2) → J.stop ds.length H2
  yld : ∀ i Hs2 H2 x H3, Same Hs Hs2 → Same Hs2 H2 → (Kp rc H H2 ∨ m = true ∧ Kp rc H0 H2) → i < ds.length → J.yld i H2 x H3 → ∃ Hs3 d, Ext none Hs2 H2 Hs3 H3 ∧ ds[i]? = some d ∧ Rp K Hs3 x d
def SemI (K : PySem.W.Frag) (rc : Rc) (m : Bool) (wi : TI) (f : MM (List D)) : Prop :=
  ∀ Hs0 H0 σ Hs H ρ, Rel K rc Hs0 H0 σ Hs H ρ → ∀ ds r, f ρ = some (ds, r) → ∀ R : It → Hp → Prop, (∀ J Hs' H', Ext rc Hs H Hs' H' → RowAt K rc H' r → IsW K rc m H0 Hs' H' J ds → R J H') → wi σ H R
structure DI (X : Cx) (rc : Rc) (m : Bool) (tg e : Expr) (wi : TI) (f : MM (List D)) : Prop where
  pi : PI X tg e wi
  se : SemI X.K rc m wi f
section
variable {K : PySem.W.Frag} {rc : Rc} {m : Bool} {H0 Hs H Hs2 H2 : Hp} {v : V} {d : D}
theorem Bst.at (h : Bst K rc m H0 Hs H v d) (g : Same Hs Hs2) (s : Same Hs2 H2) (k : Kp rc H H2 ∨ m = true ∧ Kp rc H0 H2) : Bp K Hs2 H2 v d := by
  rcases k with k | ⟨hm, k⟩
  · exact h.st _ _ g s k
  · exact h.st0 hm _ _ g s k
/-- a source that stands -/
theorem Bst.src (h : Bst K rc m H0 Hs H v d) {ds : List D} (hd : dItems d = some ds) : ∃ S : Src, v = .ref S.2 ∧ (∀ Hs2 H2, Same Hs Hs2 → Same Hs2 H2 → (Kp rc H H2 ∨ m = true ∧ Kp rc H0 H2) → ∃ xs, SqS K H2 S xs ∧ RpAll K Hs2 xs ds) := by
  cases d with
  | list es =>
    cases hd
    have hb := h.b
    cases hb with
    | sh hb =>
      obtain ⟨a, xs, rfl, _, _⟩ := hb.lst_inv
      refine ⟨(true, a), rfl, fun Hs2 H2 g s k => ?_⟩
      obtain ⟨a', ys, e, h1, h2⟩ := (h.at g s k).lst_inv s
      cases e
      exact ⟨ys, SqL.of h1, h2⟩
    | @lst a xs _ h1 h2 =>
      refine ⟨(true, a), rfl, fun Hs2 H2 g s k => ?_⟩
      obtain ⟨a', ys, e, h1, h2⟩ := (h.at g s k).lst_inv s
      cases e
      exact ⟨ys, SqL.of h1, h2⟩
  | tuple es =>
    cases hd
    obtain ⟨a, xs, rfl, _, _⟩ := h.b.tup_inv
    refine ⟨(false, a), rfl, fun Hs2 H2 g s k => ?_⟩
    obtain ⟨a', ys, e, h1, h2⟩ := (h.at g s k).tup_inv
    cases e
    exact ⟨ys, seqT_same s h1, h2⟩
  | _ => cases hd
theorem SqS.list {a : Addr} {xs : List V} (h : SqS K H (true, a) xs) : SqL K H a xs := h
theorem SqS.tup {a : Addr} {xs : List V} (h : SqS K H (false, a) xs) : SqT K H a xs := h
end
section
variable {X : Cx} {rc : Rc} {m m' m2 : Bool} {e e2 e3 tg : Expr} {pos p tpos : Pos} {te te2 te3 : TE} {f f2 f3 : MM D}
/-- a list or a tuple -/
def mItems (f : MM D) : MM (List D) := mBind f fun d => mO (dItems d)
def iSeq (K : PySem.W.Frag) (te : TE) : TI := fun σ H R => te σ H fun x H1 => ∃ S : Src, x = .ref S.2 ∧ (∃ xs, SqS K H1 S xs) ∧ R (if S.1 = true then Itl K S.2 else Itt K S.2) H1
theorem pi_seq (he : PE X e te) : PI X tg e (iSeq X.K te) := by
  refine ⟨fun pins s σ H R I h => ?_⟩
  refine thn (he.run pins s σ H _ I h) fun v s1 ⟨x, H1, I1, r1, q1⟩ => ?_
  obtain ⟨⟨k, a⟩, rfl, ⟨xs, hq⟩, q⟩ := q1
  obtain rfl : v = Value.ref a := r1
  cases k with
  | true =>
    have hq : SqL X.K H1 a xs := hq
    obtain ⟨its, rv, pl, hz⟩ := I1.list hq
    refine wpAny_pyIter_list pl.isList ?_
    refine ⟨s1.heap.objs.size, [s1.heap.objs.size], _, _, H1, rfl, I1.kept (t' := s1.toks) fun b o e => Heap.get?_push_of_some _ e, turn_list a _, ⟨_, Heap.get?_push_size _ rfl, rfl, rfl⟩, I1.fpNew (h' := s1.heap) _ fun b hb => ?_, q⟩
    rw [List.mem_singleton.mp hb]; exact Nat.le_refl _
  | false =>
    have hq : SqT X.K H1 a xs := hq
    obtain ⟨its, rv, pl, hz⟩ := I1.tuple hq
    refine wpAny_pyIter_tuple (show s1.heap.IsTuple a its.toArray from pl) ?_
    refine ⟨s1.heap.objs.size, [s1.heap.objs.size], _, _, H1, rfl, I1.kept (t' := s1.toks) fun b o e => Heap.get?_push_of_some _ e, turn_tuple a _, ⟨_, Heap.get?_push_size _ rfl, rfl, rfl⟩, I1.fpNew (h' := s1.heap) _ fun b hb => ?_, q⟩
    rw [List.mem_singleton.mp hb]; exact Nat.le_refl _
theorem getAt {ds : List D} {i : Nat} (h : i < ds.length) : ∃ d, ds[i]? = some d := ⟨_, List.getElem?_eq_getElem h⟩
theorem di_seq (h : DB X rc m e te f) : DI X rc m tg e (iSeq X.K te) (mItems f) := ⟨pi_seq h.pe, fun Hs0 H0 σ Hs H ρ R ds r hf Q q => by
  obtain ⟨d, r1, h1, h2⟩ := mBind_some hf
  obtain ⟨h3, rfl⟩ := mO_some h2
  refine h.se Hs0 H0 σ Hs H ρ R d _ h1 _ fun x Hs1 H1 e1 w1 p1 => ?_
  obtain ⟨⟨k, a⟩, rfl, src⟩ := p1.src h3
  obtain ⟨xs, hx, hr⟩ := src Hs1 H1 (Same.refl _) e1.s (.inl fun b o _ z => z)
  refine ⟨(k, a), rfl, ⟨xs, hx⟩, q _ Hs1 H1 e1 w1 ?_⟩
  cases k with
  | true =>
    refine ⟨fun i Hs2 H2 g s k hi => ?_, fun Hs2 H2 g s k => ?_, fun i Hs2 H2 x H3 g s k hi hy => ?_⟩
    · obtain ⟨ys, hy, hr2⟩ := src Hs2 H2 g s k
      obtain ⟨d', hd⟩ := getAt hi
      obtain ⟨v, hv, _⟩ := hr2.get hd
      exact ⟨ys, v, hy, hv⟩
    · obtain ⟨ys, hy, hr2⟩ := src Hs2 H2 g s k
      exact ⟨ys, hy, by rw [hr2.length]; exact Nat.le_refl _⟩
    · obtain ⟨ys, hq, hr2⟩ := src Hs2 H2 g s k
      obtain ⟨rfl, hy⟩ := hy
      obtain ⟨d', hd, hp⟩ := hr2.getV (hy ys hq)
      exact ⟨Hs2, d', .refl s, hd, hp⟩
  | false =>
    refine ⟨fun i Hs2 H2 g s k hi => ?_, fun Hs2 H2 g s k => ?_, fun i Hs2 H2 x H3 g s k hi hy => ?_⟩
    · obtain ⟨ys, hy, hr2⟩ := src Hs2 H2 g s k
      obtain ⟨d', hd⟩ := getAt hi
      obtain ⟨v, hv, _⟩ := hr2.get hd
      exact ⟨ys, v, hy, hv⟩
    · obtain ⟨ys, hy, hr2⟩ := src Hs2 H2 g s k
      exact ⟨ys, hy, by rw [hr2.length]; exact Nat.le_refl _⟩
    · obtain ⟨ys, hq, hr2⟩ := src Hs2 H2 g s k
      obtain ⟨rfl, hy⟩ := hy
      obtain ⟨d', hd, hp⟩ := hr2.getV (hy ys hq)
      exact ⟨Hs2, d', .refl s, hd, hp⟩⟩
/-- range(a, b), range(b) -/
def dRange (a b : D) : Option (List D) := match a, b with
  | .int lo, .int hi => if -1000000 ≤ lo ∧ lo ≤ 1000000 ∧ -1000000 ≤ hi ∧ hi ≤ 1000000 then some ((List.range (hi - lo).toNat).map fun (i : Nat) => PyData.int (lo + (i : Nat))) else none
  | _, _ => none
theorem isW_range {K : PySem.W.Frag} {H0 Hs H : Hp} {lo : Int} {n : Nat} : IsW K rc m H0 Hs H (Itr lo n) ((List.range n).map fun (i : Nat) => PyData.int (lo + (i : Nat))) := by
  have hl : ((List.range n).map fun (i : Nat) => PyData.int (lo + (i : Nat))).length = n := by rw [List.length_map, List.length_range]
  refine ⟨fun i Hs2 H2 g s k hi => by rw [hl] at hi; exact hi, fun Hs2 H2 g s k => by rw [hl]; exact Nat.le_refl n, fun i Hs2 H2 x H3 g s k hi hy => ?_⟩
  obtain ⟨rfl, rfl⟩ := hy
  rw [hl] at hi
  exact ⟨Hs2, .int (lo + (i : Nat)), .refl s, by rw [List.getElem?_map, List.getElem?_range hi]; rfl, .int _⟩
def mRange2 (f f2 : MM D) : MM (List D) := mBind f fun a => mBind f2 fun b => mO (dRange a b)
theorem di_range2 (hm : X.mg "range" = none) (ha : DE X rc e te f) (hb : DE X rc e2 te2 f2) (hg : Gl X "range" := by rfl)
    (hs : starEach [e, e2] X.env = [(false, eval e X.env), (false, eval e2 X.env)] := by rfl) (hs2 : starEach [e2] X.env = [(false, eval e2 X.env)] := by rfl) (hsa : starEach [e, e2] X.env = (false, eval e X.env) :: starEach [e2] X.env := by rfl) (hsb : starEach [e2] X.env = (false, eval e2 X.env) :: starEach [] X.env := by rfl) :
    DI X rc m tg (.Call (.Name "range" p) [e, e2] [] pos) (iRng2 (tCons te (tCons te2 tNil))) (mRange2 f f2) := ⟨pi_range2 hg hm (pa_cons ha.pe (pa_cons hb.pe pa_nil hsb) hsa) hs hs2, fun Hs0 H0 σ Hs H ρ R ds r hf Q q => by
  obtain ⟨a, r1, h1, h2⟩ := mBind_some hf
  obtain ⟨b, r2, h3, h4⟩ := mBind_some h2
  obtain ⟨h5, rfl⟩ := mO_some h4
  refine ha.se Hs0 H0 σ Hs H ρ R a r1 h1 _ fun x Hs1 H1 e1 w1 p1 => ?_
  refine hb.se Hs0 H0 σ Hs1 H1 (ρ.wr r1) (R.ext' e1 w1) b _ h3 _ fun y Hs2 H2 e2 w2 p2 => ?_
  cases a <;> cases b <;> try (cases h5)
  rename_i lo hi
  simp only [dRange] at h5
  by_cases hc : -1000000 ≤ lo ∧ lo ≤ 1000000 ∧ -1000000 ≤ hi ∧ hi ≤ 1000000
  · rw [if_pos hc] at h5
    cases h5
    refine ⟨lo, hi, by rw [p1.int_inv, p2.int_inv], by omega, ?_⟩
    exact q _ Hs2 H2 (e1.trans e2) w2 isW_range
  · rw [if_neg hc] at h5; cases h5⟩
def mRange1 (f : MM D) : MM (List D) := mBind f fun b => mO (dRange (.int 0) b)
theorem di_range1 (hm : X.mg "range" = none) (ha : DE X rc e te f) (hg : Gl X "range" := by rfl) (hs : starEach [e] X.env = [(false, eval e X.env)] := by rfl) (hsa : starEach [e] X.env = (false, eval e X.env) :: starEach [] X.env := by rfl) :
    DI X rc m tg (.Call (.Name "range" p) [e] [] pos) (iRng1 (tCons te tNil)) (mRange1 f) := ⟨pi_range1 hg hm (pa_cons ha.pe pa_nil hsa) hs, fun Hs0 H0 σ Hs H ρ R ds r hf Q q => by
  obtain ⟨a, r1, h1, h2⟩ := mBind_some hf
  obtain ⟨h5, rfl⟩ := mO_some h2
  refine ha.se Hs0 H0 σ Hs H ρ R a _ h1 _ fun x Hs1 H1 e1 w1 p1 => ?_
  cases a <;> try (cases h5)
  rename_i hi
  simp only [dRange] at h5
  by_cases hc : -1000000 ≤ (0 : Int) ∧ (0 : Int) ≤ 1000000 ∧ -1000000 ≤ hi ∧ hi ≤ 1000000
  · rw [if_pos hc] at h5
    cases h5
    refine ⟨hi, by rw [p1.int_inv], by omega, by omega, ?_⟩
    refine q _ Hs1 H1 e1 w1 ?_
    rw [Int.sub_zero]
    exact isW_range
  · rw [if_neg hc] at h5; cases h5⟩
/-- zip of two -/
def mZip2 (f f2 : MM D) : MM (List D) := mBind f fun a => mBind f2 fun b => mBind (mO (dItems a)) fun xs => mBind (mO (dItems b)) fun ys => mRet (List.zipWith (fun x y => PyData.tuple [x, y]) xs ys)
theorem Same.newIn {Hs H : Hp} {T : Addr} {o : HO} (s : Same Hs H) (n : H T = none) : Same Hs (upd Hs T o) := (Ext.new (rc := none) s n).g
theorem zw_get {xs ys : List D} {i : Nat} {x y : D} (h1 : xs[i]? = some x) (h2 : ys[i]? = some y) : (List.zipWith (fun x y => PyData.tuple [x, y]) xs ys)[i]? = some (.tuple [x, y]) := by
  rw [List.getElem?_zipWith, h1, h2]
theorem di_zip2 {elts : List Expr} {kk : Nat} (hm : X.mg "zip" = none) (ha : DB X rc m e te f) (hb : DB X rc m e2 te2 f2) (hg : Gl X "zip" := by rfl)
    (hs : starEach [e, e2] X.env = (false, eval e X.env) :: starEach [e2] X.env := by rfl) (hs2 : starEach [e2] X.env = (false, eval e2 X.env) :: starEach [] X.env := by rfl) (hpl : (backTo pos (starEach [e2] X.env)).any (·.1) = false := by rfl) :
    DI X rc m (.Tuple elts kk tpos) (.Call (.Name "zip" p) [e, e2] [] pos) (iZip2 X.K (tCons te (tCons te2 tNil))) (mZip2 f f2) := ⟨pi_zip2 hg hm (pa_cons ha.pe (pa_cons hb.pe pa_nil hs2) hs) hs hpl, fun Hs0 H0 σ Hs H ρ R ds r hf Q q => by
  obtain ⟨a, r1, h1, h2⟩ := mBind_some hf
  obtain ⟨b, r2, h3, h4⟩ := mBind_some h2
  obtain ⟨xs, r3, h5, h6⟩ := mBind_some h4
  obtain ⟨h7, rfl⟩ := mO_some h5
  obtain ⟨ys, r4, h8, h9⟩ := mBind_some h6
  obtain ⟨h10, rfl⟩ := mO_some h8
  cases h9
  refine ha.se Hs0 H0 σ Hs H ρ R a r1 h1 _ fun x Hs1 H1 e1 w1 p1 => ?_
  refine hb.se Hs0 H0 σ Hs1 H1 (ρ.wr r1) (R.ext' e1 w1) b _ h3 _ fun y Hs2 H2 e2 w2 p2 => ?_
  obtain ⟨S1, rfl, src1⟩ := (p1.ext e2).src h7
  obtain ⟨S2, rfl, src2⟩ := p2.src h10
  obtain ⟨vs1, a1, a2⟩ := src1 Hs2 H2 (Same.refl _) e2.s (.inl fun b o _ z => z)
  obtain ⟨vs2, b1, b2⟩ := src2 Hs2 H2 (Same.refl _) e2.s (.inl fun b o _ z => z)
  refine ⟨S1, S2, vs1, vs2, rfl, a1, b1, q _ Hs2 H2 (e1.trans e2) w2 ?_⟩
  have hl : (List.zipWith (fun x y => PyData.tuple [x, y]) xs ys).length = min xs.length ys.length := List.length_zipWith
  refine ⟨fun i Hs3 H3 g s k hi => ?_, fun Hs3 H3 g s k => ?_, fun i Hs3 H3 x H4 g s k hi hy => ?_⟩
  · obtain ⟨us, q1, q2⟩ := src1 Hs3 H3 g s k
    obtain ⟨ws, q3, q4⟩ := src2 Hs3 H3 g s k
    rw [hl] at hi
    obtain ⟨d1, hd1⟩ := getAt (ds := xs) (i := i) (by omega)
    obtain ⟨d2, hd2⟩ := getAt (ds := ys) (i := i) (by omega)
    obtain ⟨v1, hv1, _⟩ := q2.get hd1
    obtain ⟨v2, hv2, _⟩ := q4.get hd2
    exact ⟨us, ws, v1, v2, q1, q3, hv1, hv2⟩
  · obtain ⟨us, q1, q2⟩ := src1 Hs3 H3 g s k
    obtain ⟨ws, q3, q4⟩ := src2 Hs3 H3 g s k
    exact ⟨us, ws, q1, q3, by rw [hl, q2.length, q4.length]⟩
  · obtain ⟨us, q1, q2⟩ := src1 Hs3 H3 g s k
    obtain ⟨ws, q3, q4⟩ := src2 Hs3 H3 g s k
    obtain ⟨T, v1, v2, rfl, hT, rfl, y1, y2⟩ := hy
    obtain ⟨d1, hd1, hp1⟩ := q2.getV (y1 us q1)
    obtain ⟨d2, hd2, hp2⟩ := q4.getV (y2 ws q3)
    have hn := same_none s hT
    exact ⟨_, .tuple [d1, d2], .new s hT, zw_get hd1 hd2, .tup (.inl (.inl upd_same)) (RpAll.new hn (.cons hp1 (.cons hp2 .nil)))⟩⟩
/-- zip of three -/
def zip3 : List D → List D → List D → List D
  | x :: xs, y :: ys, z :: zs => .tuple [x, y, z] :: zip3 xs ys zs
  | _, _, _ => []
theorem zip3_len : ∀ (xs ys zs : List D), (zip3 xs ys zs).length = min (min xs.length ys.length) zs.length
  | [], _, _ => by simp [zip3]
  | _ :: _, [], _ => by simp [zip3]
  | _ :: _, _ :: _, [] => by simp [zip3]
  | x :: xs, y :: ys, z :: zs => by
    have := zip3_len xs ys zs
    simp only [zip3, List.length_cons, this]
    omega
theorem zip3_get : ∀ {xs ys zs : List D} {i : Nat} {x y z : D}, xs[i]? = some x → ys[i]? = some y → zs[i]? = some z → (zip3 xs ys zs)[i]? = some (.tuple [x, y, z])
  | [], _, _, _, _, _, _, h, _, _ => by simp at h
  | _ :: _, [], _, _, _, _, _, _, h, _ => by simp at h
  | _ :: _, _ :: _, [], _, _, _, _, _, _, h => by simp at h
  | x :: xs, y :: ys, z :: zs, 0, _, _, _, h1, h2, h3 => by
    simp at h1 h2 h3
    subst h1 h2 h3
    rfl
  | x :: xs, y :: ys, z :: zs, i + 1, _, _, _, h1, h2, h3 => by
    simp only [zip3, List.getElem?_cons_succ] at h1 h2 h3 ⊢
    exact zip3_get h1 h2 h3
def mZip3 (f f2 f3 : MM D) : MM (List D) := mBind f fun a => mBind f2 fun b => mBind f3 fun c => mBind (mO (dItems a)) fun xs => mBind (mO (dItems b)) fun ys => mBind (mO (dItems c)) fun zs => mRet (zip3 xs ys zs)
theorem di_zip3 {elts : List Expr} {kk : Nat} (hm : X.mg "zip" = none) (ha : DB X rc m e te f) (hb : DB X rc m e2 te2 f2) (hc : DB X rc m e3 te3 f3) (hg : Gl X "zip" := by rfl)
    (hs : starEach [e, e2, e3] X.env = (false, eval e X.env) :: starEach [e2, e3] X.env := by rfl) (hs2 : starEach [e2, e3] X.env = (false, eval e2 X.env) :: starEach [e3] X.env := by rfl) (hs3 : starEach [e3] X.env = (false, eval e3 X.env) :: starEach [] X.env := by rfl) (hpl : (backTo pos (starEach [e2, e3] X.env)).any (·.1) = false := by rfl) :
    DI X rc m (.Tuple elts kk tpos) (.Call (.Name "zip" p) [e, e2, e3] [] pos) (iZip3 X.K (tCons te (tCons te2 (tCons te3 tNil)))) (mZip3 f f2 f3) := ⟨pi_zip3 hg hm (pa_cons ha.pe (pa_cons hb.pe (pa_cons hc.pe pa_nil hs3) hs2) hs) hs hpl, fun Hs0 H0 σ Hs H ρ R ds r hf Q q => by
  obtain ⟨a, r1, h1, h2⟩ := mBind_some hf
  obtain ⟨b, r2, h3, h4⟩ := mBind_some h2
  obtain ⟨c, r3, h5, h6⟩ := mBind_some h4
  obtain ⟨xs, r4, h7, h8⟩ := mBind_some h6
  obtain ⟨h9, rfl⟩ := mO_some h7
  obtain ⟨ys, r5, h10, h11⟩ := mBind_some h8
  obtain ⟨h12, rfl⟩ := mO_some h10
  obtain ⟨zs, r6, h13, h14⟩ := mBind_some h11
  obtain ⟨h15, rfl⟩ := mO_some h13
  cases h14
  refine ha.se Hs0 H0 σ Hs H ρ R a r1 h1 _ fun x Hs1 H1 e1 w1 p1 => ?_
  refine hb.se Hs0 H0 σ Hs1 H1 (ρ.wr r1) (R.ext' e1 w1) b r2 h3 _ fun y Hs2 H2 e2 w2 p2 => ?_
  have R2 := R.ext' (e1.trans e2) w2
  refine hc.se Hs0 H0 σ Hs2 H2 (ρ.wr r2) R2 c _ h5 _ fun y Hs3 H3 e3 w3 p3 => ?_
  obtain ⟨S1, rfl, src1⟩ := ((p1.ext e2).ext e3).src h9
  obtain ⟨S2, rfl, src2⟩ := (p2.ext e3).src h12
  obtain ⟨S3, rfl, src3⟩ := p3.src h15
  obtain ⟨vs1, a1, a2⟩ := src1 Hs3 H3 (Same.refl _) e3.s (.inl fun b o _ z => z)
  obtain ⟨vs2, b1, b2⟩ := src2 Hs3 H3 (Same.refl _) e3.s (.inl fun b o _ z => z)
  obtain ⟨vs3, c1, c2⟩ := src3 Hs3 H3 (Same.refl _) e3.s (.inl fun b o _ z => z)
  refine ⟨S1, S2, S3, vs1, vs2, vs3, rfl, a1, b1, c1, q _ Hs3 H3 ((e1.trans e2).trans e3) w3 ?_⟩
  have hl := zip3_len xs ys zs
  refine ⟨fun i Hs4 H4 g s k hi => ?_, fun Hs4 H4 g s k => ?_, fun i Hs4 H4 x H5 g s k hi hy => ?_⟩
  · obtain ⟨us, q1, q2⟩ := src1 Hs4 H4 g s k
    obtain ⟨ws, q3, q4⟩ := src2 Hs4 H4 g s k
    obtain ⟨ts, q5, q6⟩ := src3 Hs4 H4 g s k
    rw [hl] at hi
    obtain ⟨d1, hd1⟩ := getAt (ds := xs) (i := i) (by omega)
    obtain ⟨d2, hd2⟩ := getAt (ds := ys) (i := i) (by omega)
    obtain ⟨d3, hd3⟩ := getAt (ds := zs) (i := i) (by omega)
    obtain ⟨v1, hv1, _⟩ := q2.get hd1
    obtain ⟨v2, hv2, _⟩ := q4.get hd2
    obtain ⟨v3, hv3, _⟩ := q6.get hd3
    exact ⟨us, ws, ts, v1, v2, v3, q1, q3, q5, hv1, hv2, hv3⟩
  · obtain ⟨us, q1, q2⟩ := src1 Hs4 H4 g s k
    obtain ⟨ws, q3, q4⟩ := src2 Hs4 H4 g s k
    obtain ⟨ts, q5, q6⟩ := src3 Hs4 H4 g s k
    exact ⟨us, ws, ts, q1, q3, q5, by rw [hl, q2.length, q4.length, q6.length]⟩
  · obtain ⟨us, q1, q2⟩ := src1 Hs4 H4 g s k
    obtain ⟨ws, q3, q4⟩ := src2 Hs4 H4 g s k
    obtain ⟨ts, q5, q6⟩ := src3 Hs4 H4 g s k
    obtain ⟨T, v1, v2, v3, rfl, hT, rfl, y1, y2, y3⟩ := hy
    obtain ⟨d1, hd1, hp1⟩ := q2.getV (y1 us q1)
    obtain ⟨d2, hd2, hp2⟩ := q4.getV (y2 ws q3)
    obtain ⟨d3, hd3, hp3⟩ := q6.getV (y3 ts q5)
    have hn := same_none s hT
    exact ⟨_, .tuple [d1, d2, d3], .new s hT, zip3_get hd1 hd2 hd3, .tup (.inl (.inl upd_same)) (RpAll.new hn (.cons hp1 (.cons hp2 (.cons hp3 .nil))))⟩⟩
/-- enumerate -/
def enumD (ds : List D) : List D := ds.zipIdx.map fun p => PyData.tuple [.int (p.2 : Nat), p.1]
theorem enumD_len (ds : List D) : (enumD ds).length = ds.length := by unfold enumD; simp
theorem enumD_get {ds : List D} {i : Nat} {d : D} (h : ds[i]? = some d) : (enumD ds)[i]? = some (.tuple [.int (i : Nat), d]) := by
  unfold enumD
  rw [List.getElem?_map, List.getElem?_zipIdx, h]
  simp
def mEnum (f : MM D) : MM (List D) := mBind f fun a => mBind (mO (dItems a)) fun xs => mRet (enumD xs)
theorem di_enum {elts : List Expr} {kk : Nat} (hm : X.mg "enumerate" = none) (ha : DB X rc m e te f) (hg : Gl X "enumerate" := by rfl) (hs : starEach [e] X.env = [(false, eval e X.env)] := by rfl) :
    DI X rc m (.Tuple elts kk tpos) (.Call (.Name "enumerate" p) [e] [] pos) (iEnum1 X.K (tCons te tNil)) (mEnum f) := ⟨pi_enum1 hg hm (pa_cons ha.pe pa_nil hs) hs, fun Hs0 H0 σ Hs H ρ R ds r hf Q q => by
  obtain ⟨a, r1, h1, h2⟩ := mBind_some hf
  obtain ⟨xs, r4, h7, h8⟩ := mBind_some h2
  obtain ⟨h9, rfl⟩ := mO_some h7
  cases h8
  refine ha.se Hs0 H0 σ Hs H ρ R a _ h1 _ fun x Hs1 H1 e1 w1 p1 => ?_
  obtain ⟨S1, rfl, src1⟩ := p1.src h9
  obtain ⟨vs1, a1, a2⟩ := src1 Hs1 H1 (Same.refl _) e1.s (.inl fun b o _ z => z)
  refine ⟨S1, vs1, rfl, a1, q _ Hs1 H1 e1 w1 ?_⟩
  have hl := enumD_len xs
  refine ⟨fun i Hs4 H4 g s k hi => ?_, fun Hs4 H4 g s k => ?_, fun i Hs4 H4 x H5 g s k hi hy => ?_⟩
  · obtain ⟨us, q1, q2⟩ := src1 Hs4 H4 g s k
    rw [hl] at hi
    obtain ⟨d1, hd1⟩ := getAt (ds := xs) (i := i) (by omega)
    obtain ⟨v1, hv1, _⟩ := q2.get hd1
    exact ⟨us, v1, q1, hv1⟩
  · obtain ⟨us, q1, q2⟩ := src1 Hs4 H4 g s k
    exact ⟨us, q1, by rw [hl, q2.length]⟩
  · obtain ⟨us, q1, q2⟩ := src1 Hs4 H4 g s k
    obtain ⟨T, v1, rfl, hT, rfl, y1⟩ := hy
    obtain ⟨d1, hd1, hp1⟩ := q2.getV (y1 us q1)
    have hn := same_none s hT
    exact ⟨_, .tuple [.int (i : Nat), d1], .new s hT, enumD_get hd1, .tup (.inl (.inl upd_same)) (RpAll.new hn (.cons (.int _) (.cons hp1 .nil)))⟩⟩
end
end DL

namespace DL
open PySem PySem.Spec PyProof.Rows L2
/-! ### targets -/
def SemG (K : PySem.W.Frag) (rc : Rc) (vs : List Nat) (g : TG) (f : D → Ev → Option Ev) : Prop :=
  ∀ Hs0 H0 σ Hs H ρ v d ρ', Rel K rc Hs0 H0 σ Hs H ρ → Rp K Hs v d → f d ρ = some ρ' → ∀ Q : L2.St → Hp → Prop, (∀ σ', Rel K rc Hs0 H0 σ' Hs H ρ' → σ'.length = σ.length → (∀ i, i ∉ vs → σ'[i]? = σ[i]?) → Q σ' H) → g v σ H Q
def SemGs (K : PySem.W.Frag) (rc : Rc) (vs : List Nat) (g : TGs) (f : List D → Ev → Option Ev) : Prop :=
  ∀ Hs0 H0 σ Hs H ρ ws ds ρ', Rel K rc Hs0 H0 σ Hs H ρ → RpAll K Hs ws ds → f ds ρ = some ρ' → ∀ Q : L2.St → Hp → Prop, (∀ σ', Rel K rc Hs0 H0 σ' Hs H ρ' → σ'.length = σ.length → (∀ i, i ∉ vs → σ'[i]? = σ[i]?) → Q σ' H) → g ws σ H Q
structure DG (X : Cx) (rc : Rc) (vs : List Nat) (e : Expr) (g : TG) (f : D → Ev → Option Ev) : Prop where
  pg : PG X e g
  se : SemG X.K rc vs g f
structure DGs (X : Cx) (rc : Rc) (vs : List Nat) (e : List Expr) (g : TGs) (f : List D → Ev → Option Ev) : Prop where
  pg : PGs X e g
  se : SemGs X.K rc vs g f
def gtName (i : Nat) (d : D) (ρ : Ev) : Option Ev := some (ρ.set i (.s d))
def gtNil (ds : List D) (ρ : Ev) : Option Ev := match ds with
  | [] => some ρ
  | _ => none
def gtCons (f : D → Ev → Option Ev) (fs : List D → Ev → Option Ev) (ds : List D) (ρ : Ev) : Option Ev := match ds with
  | d :: r => (match f d ρ with
    | some ρ1 => fs r ρ1
    | none => none)
  | [] => none
def gtTup (n : Nat) (fs : List D → Ev → Option Ev) (d : D) (ρ : Ev) : Option Ev := match d with
  | .tuple ds => if ds.length = n then fs ds ρ else none
  | _ => none
section
variable {X : Cx} {rc : Rc} {vs : List Nat} {pos : Pos}
theorem dg_name {i : Nat} {x : Str} (hN : X.N.Nodup) (hv : i ∈ vs) (hi : X.N[i]? = some x := by rfl) (hx : Loc X.env.scope x := by first | exact Or.inl rfl | exact Or.inr rfl) (hf : X.fn x = true ∨ X.env.scope.names.lookup x = some .local := by first | exact .inl rfl | exact .inr rfl | assumption) :
    DG X rc vs (.Name x pos) (gName i) (gtName i) := ⟨pg_name hN hi hx hf, fun Hs0 H0 σ Hs H ρ v d ρ' R hp hf Q q => by
  cases hf
  refine q _ (R.set hp) (by rw [List.length_set]) fun j hj => ?_
  have hij : i ≠ j := fun z => hj (by rw [← z]; exact hv)
  rw [List.getElem?_set_ne hij]⟩
theorem dgs_nil : DGs X rc vs [] gNil gtNil := ⟨pgs_nil, fun Hs0 H0 σ Hs H ρ ws ds ρ' R hp hf Q q => by
  cases ds with
  | nil =>
    cases hf
    cases hp
    exact ⟨rfl, q σ R rfl fun _ _ => rfl⟩
  | cons _ _ => cases hf⟩
theorem dgs_cons {e : Expr} {es : List Expr} {g : TG} {u : TGs} {f : D → Ev → Option Ev} {fs : List D → Ev → Option Ev} (h1 : DG X rc vs e g f) (h2 : DGs X rc vs es u fs)
    (hs : (assignEach (e :: es) X.env).map (·.2) = assign e X.env :: (assignEach es X.env).map (·.2) := by rfl) : DGs X rc vs (e :: es) (gCons g u) (gtCons f fs) := ⟨pgs_cons h1.pg h2.pg hs, fun Hs0 H0 σ Hs H ρ ws ds ρ' R hp hf Q q => by
  cases ds with
  | nil => cases hf
  | cons d r =>
    cases hp with
    | cons p1 p2 =>
      simp only [gtCons] at hf
      cases e1 : f d ρ with
      | none => rw [e1] at hf; cases hf
      | some ρ1 =>
        rw [e1] at hf
        refine ⟨_, _, rfl, h1.se Hs0 H0 σ Hs H ρ _ d ρ1 R p1 e1 _ fun σ1 R1 l1 k1 => ?_⟩
        exact h2.se Hs0 H0 σ1 Hs H ρ1 _ r ρ' R1 p2 hf Q fun σ2 R2 l2 k2 => q σ2 R2 (l2.trans l1) fun i hi => (k2 i hi).trans (k1 i hi)⟩
theorem dg_tup {es : List Expr} {k : Nat} {u : TGs} {fs : List D → Ev → Option Ev} {n : Nat} (hc : X.calm = true) (h : DGs X rc vs es u fs)
    (hn : (assignEach es X.env).length = n := by rfl) (hst : (assignEach es X.env).findIdx? (·.1) = none := by rfl) : DG X rc vs (.Tuple es k pos) (gTup X.K n u) (gtTup n fs) := ⟨pg_tup hc h.pg hn hst, fun Hs0 H0 σ Hs H ρ v d ρ' R hp hf Q q => by
  cases d with
  | tuple ds =>
    simp only [gtTup] at hf
    by_cases hl : ds.length = n
    · rw [if_pos hl] at hf
      obtain ⟨a, xs, rfl, h1, h2⟩ := hp.tup_inv
      exact ⟨a, xs, rfl, seqT_same R.same h1, by rw [h2.length]; exact hl, h.se Hs0 H0 σ Hs H ρ xs ds ρ' R h2 hf Q q⟩
    · rw [if_neg hl] at hf; cases hf
  | _ => cases hf⟩
end
/-! ### the slots of a comprehension's own names -/
def wipeS (sl : List Sl) : List Nat → List Sl
  | [] => sl
  | v :: vs => (wipeS sl vs).set v .no
def Ev.wipe (ρ : Ev) (vs : List Nat) : Ev := ⟨ρ.row, wipeS ρ.sl vs⟩
section
variable {K : PySem.W.Frag} {rc : Rc} {Hs0 H0 Hs H : Hp} {σ : L2.St} {ρ : Ev}
theorem Rel.setNo (R : Rel K rc Hs0 H0 σ Hs H ρ) (i : Nat) (x : Option V) : Rel K rc Hs0 H0 (σ.set i x) Hs H (ρ.set i .no) := by
  have hl : (ρ.set i .no).sl.length = ρ.sl.length := by simp [Ev.set]
  have key : ∀ j, (ρ.set i .no).get j = if i = j then .no else ρ.get j := fun j => by
    rw [Ev.get_set]
    by_cases e : i = j
    · subst e
      by_cases hi : i < ρ.sl.length
      · simp [hi]
      · simp only [hi, and_false, if_false, if_true]
        unfold Ev.get
        rw [List.getD_eq_getElem?_getD, List.getElem?_eq_none (by omega)]
        rfl
    · simp [e]
  refine ⟨R.ext, R.s0, R.row, R.rn, R.scr, by rw [hl, List.length_set]; exact R.len, fun j => ?_, fun j k p hjk hj hk => ?_⟩
  · rw [key]
    by_cases e : i = j
    · rw [if_pos e]; trivial
    · rw [if_neg e, List.getElem?_set_ne e]; exact R.sl j
  · rw [key] at hj hk
    by_cases e : i = j
    · rw [if_pos e] at hj; exact hj.elim
    · by_cases e2 : i = k
      · rw [if_pos e2] at hk; exact hk.elim
      · rw [if_neg e] at hj
        rw [if_neg e2] at hk
        rw [List.getElem?_set_ne e, List.getElem?_set_ne e2]
        exact R.dis j k p hjk hj hk
theorem Rel.wipe (R : Rel K rc Hs0 H0 σ Hs H ρ) : ∀ vs : List Nat, Rel K rc Hs0 H0 (L2.wipe σ vs) Hs H (ρ.wipe vs)
  | [] => R
  | v :: vs => (Rel.wipe R vs).setNo v none
end
theorem wipe_get {σ : L2.St} {i : Nat} : ∀ {vs : List Nat}, (L2.wipe σ vs)[i]? = if i ∈ vs ∧ i < σ.length then some none else σ[i]?
  | [] => by simp [L2.wipe]
  | v :: vs => by
    unfold L2.wipe
    by_cases h : v = i
    · subst h
      by_cases hl : v < σ.length
      · rw [List.getElem?_set_self (by rw [wipe_length]; exact hl), if_pos ⟨by simp, hl⟩]
      · rw [List.getElem?_eq_none (by rw [List.length_set, wipe_length]; omega), if_neg (fun z => hl z.2), List.getElem?_eq_none (by omega)]
    · rw [List.getElem?_set_ne h, wipe_get]
      have : (i ∈ v :: vs) ↔ i ∈ vs := by
        rw [List.mem_cons]
        exact ⟨fun z => z.elim (fun z => absurd z.symm h) id, .inr⟩
      simp only [this]
theorem wipe_same {σ σ' : L2.St} {vs : List Nat} (hl : σ'.length = (L2.wipe σ vs).length) (hk : ∀ i, i ∉ vs → σ'[i]? = (L2.wipe σ vs)[i]?) : L2.wipe σ' vs = L2.wipe σ vs := by
  apply List.ext_getElem?
  intro i
  rw [wipe_length] at hl
  rw [wipe_get]
  by_cases hi : i ∈ vs
  · by_cases hb : i < σ'.length
    · rw [if_pos ⟨hi, hb⟩, wipe_get, if_pos ⟨hi, by omega⟩]
    · rw [if_neg (fun z => hb z.2), List.getElem?_eq_none (by omega), List.getElem?_eq_none (by rw [wipe_length]; omega)]
  · rw [if_neg (fun z => hi z.1)]
    exact hk i hi
theorem row_upd {K : PySem.W.Frag} {rc : Rc} {H1 H5 : Hp} {Dn : Addr} {o : HO} {r1 r : Row} (w1 : RowAt K rc H1 r1) (hD : H1 Dn = none) (nrow : rc.ad ≠ some Dn) (w : RowAt K rc H5 r) : RowAt K rc (upd H5 Dn o) r := by
  cases rc with
  | none => trivial
  | some x =>
    obtain ⟨a, sc, ns⟩ := x
    have na : a ≠ Dn := fun z => nrow (by rw [← z]; rfl)
    refine ⟨⟨by rw [upd_ne na]; exact w.1.1, w.1.2⟩, ?_⟩
    rcases w1.2 with h | h
    · have nsc : sc ≠ Dn := by
        rcases h with h | ⟨u, h⟩
        · exact fun z => by rw [z, hD] at h; cases h
        · exact fun z => by rw [z, hD] at h; cases h
      rcases w.2 with (h | ⟨u, h⟩) | h
      · exact .inl (.inl (by rw [upd_ne nsc]; exact h))
      · exact .inl (.inr ⟨u, by rw [upd_ne nsc]; exact h⟩)
      · exact .inr h
    · exact .inr h
/-! ### comprehensions -/
def lcGo (vs : List Nat) (fg : D → Ev → Option Ev) (ft : MM Bool) (fe : MM D) : List D → MM (List D)
  | [] => mRet []
  | d :: ds => fun ρ => match fg d (ρ.wipe vs) with
    | none => none
    | some ρ1 => match ft ρ1 with
      | none => none
      | some (b, r1) => if b = true then (match fe (ρ1.wr r1) with
          | none => none
          | some (y, r2) => match lcGo vs fg ft fe ds (ρ.wr r2) with
            | none => none
            | some (l, r3) => some (y :: l, r3))
        else lcGo vs fg ft fe ds (ρ.wr r1)
def mLc (vs : List Nat) (fi : MM (List D)) (fg : D → Ev → Option Ev) (ft : MM Bool) (fe : MM D) : MM (List D) := mBind fi fun ds => mBind (mO (dLst ds)) fun ds => lcGo vs fg ft fe ds
theorem lcGo_row {vs : List Nat} {fg : D → Ev → Option Ev} {ft : MM Bool} {fe : MM D} {ds : List D} {ρ : Ev} {r : Row} : lcGo vs fg ft fe ds (ρ.wr r) = lcGo vs fg ft fe ds (ρ.wr r) := rfl
theorem sem_lc {K : PySem.W.Frag} {rc : Rc} {m : Bool} {vs : List Nat} {wi : TI} {g : TG} {tt : TT} {te : TE} {fi : MM (List D)} {fg : D → Ev → Option Ev} {ft : MM Bool} {fe : MM D} (hi : SemI K rc m wi fi) (hg : SemG K rc vs g fg) (ht : Sem K rc PT_ tt ft) (he : Sem K rc (PE_ K) te fe) :
    ∀ Hs0 H0 σ Hs H ρ, Rel K rc Hs0 H0 σ Hs H ρ → ∀ b r, mLc vs fi fg ft fe ρ = some (b, r) → ∀ Q : V → Hp → Prop, (∀ a Hs' H', Ext rc Hs H Hs' H' → RowAt K rc H' r → (∃ p ws, a = .ref p ∧ H p = none ∧ H' p = some (.lst ws) ∧ Hs' p = none ∧ RpAll K Hs' ws b) → Q a H') → tLc wi g tt te vs σ H Q := by
  intro Hs0 H0 σ Hs H ρ R fin rfin hf Q q
  obtain ⟨ds, rA, h1, h2⟩ := mBind_some hf
  obtain ⟨ds', rB, h3, h4⟩ := mBind_some h2
  obtain ⟨h5, rfl⟩ := mO_some h3
  unfold dLst at h5
  by_cases hz : ds.length ≤ 1000000
  · rw [if_pos hz] at h5
    cases h5
    refine hi Hs0 H0 σ Hs H ρ R ds _ h1 _ fun J Hs1 H1 e1 w1 W => ?_
    intro Dn hD
    have hDs := same_none e1.s hD
    have R1 := R.ext' e1 w1
    have h4 : lcGo vs fg ft fe ds (ρ.wr rB) = some (fin, rfin) := h4
    have nrow : rc.ad ≠ some Dn := fun z => (R1.ext.d Dn (R1.rn Dn z).1) hD
    -- the invariant
    refine ⟨fun i n H2 => n = ds.length - i ∧ i ≤ ds.length ∧ ∃ Hs2 acc accD rest r, Ext rc Hs1 H1 Hs2 H2 ∧ RowAt K rc H2 r ∧ H2 Dn = some (.lst acc) ∧ Hs2 Dn = none ∧ RpAll K Hs2 acc accD ∧ accD.length ≤ i ∧ lcGo vs fg ft fe (ds.drop i) (ρ.wr r) = some (rest, rfin) ∧ accD ++ rest = fin,
      ⟨ds.length, by simp, Nat.zero_le _, Hs1, [], [], fin, rB, ?_, row_new hD w1, upd_same, hDs, .nil, Nat.le_refl _, h4, rfl⟩, ?_⟩
    · exact Ext.newP e1.s hD
    · rintro i n H2 ⟨rfl, hin, Hs2, acc, accD, rest, r, e2, w2, hacc, hDs2, hra, hal, hgo, hfin⟩
      have kp : Kp rc H1 H2 := e2.k
      by_cases hlt : i < ds.length
      · refine .inr ⟨W.go i Hs2 H2 e2.g e2.s (.inl kp) hlt, fun H3 => ∃ n', n' = ds.length - (i + 1) ∧ i + 1 ≤ ds.length ∧ ∃ Hs2 acc accD rest r, Ext rc Hs1 H1 Hs2 H3 ∧ RowAt K rc H3 r ∧ H3 Dn = some (.lst acc) ∧ Hs2 Dn = none ∧ RpAll K Hs2 acc accD ∧ accD.length ≤ i + 1 ∧ lcGo vs fg ft fe (ds.drop (i + 1)) (ρ.wr r) = some (rest, rfin) ∧ accD ++ rest = fin, fun H' ⟨n', hn', rest'⟩ => ⟨n', by omega, hn', rest'⟩, fun x H3 hy => ?_⟩
        obtain ⟨Hs3, d, e3, hd, hx⟩ := W.yld i Hs2 H2 x H3 e2.g e2.s (.inl kp) hlt hy
        have e23 : Ext rc Hs1 H1 Hs3 H3 := e2.trans e3.of_none
        have hgd : ds.drop i = d :: ds.drop (i + 1) := by
          rw [List.drop_eq_getElem_cons hlt]
          have := List.getElem?_eq_getElem hlt
          rw [this] at hd
          cases hd
          rfl
        rw [hgd] at hgo
        simp only [lcGo] at hgo
        have w3 : RowAt K rc H3 r := w2.keep e3.same_none
        have R3 : Rel K rc Hs0 H0 σ Hs3 H3 (ρ.wr r) := R1.ext' e23 w3
        have Rw := R3.wipe vs
        cases hg1 : fg d ((ρ.wr r).wipe vs) with
        | none => rw [hg1] at hgo; cases hgo
        | some ρ1 =>
          rw [hg1] at hgo
          refine hg Hs0 H0 (L2.wipe σ vs) Hs3 H3 _ x d ρ1 Rw hx hg1 _ fun σ2 R2' l2 k2 => ⟨wipe_same l2 k2, ?_⟩
          cases ht1 : ft ρ1 with
          | none => simp only [ht1] at hgo; cases hgo
          | some p =>
            obtain ⟨b, ra⟩ := p
            simp only [ht1] at hgo
            refine ht Hs0 H0 σ2 Hs3 H3 ρ1 R2' b ra ht1 _ fun b' Hs4 H4 e4 w4 pb => ?_
            cases pb
            have R4 := R2'.ext' e4 w4
            cases b with
            | false =>
              rw [if_neg Bool.false_ne_true] at hgo ⊢
              have e24 := e23.trans e4
              refine ⟨_, rfl, hlt, Hs4, acc, accD, rest, ra, e24, w4, ?_, ?_, hra.mono (e3.g.trans e4.g), by omega, hgo, hfin⟩
              · exact e4.k _ _ nrow (e3.same_none _ _ hacc)
              · exact e4.p _ (by rw [e3.same_none _ _ hacc]; simp) (e3.p _ (by rw [hacc]; simp) hDs2)
            | true =>
              rw [if_pos rfl] at hgo ⊢
              cases he1 : fe (ρ1.wr ra) with
              | none => rw [he1] at hgo; cases hgo
              | some p =>
                obtain ⟨y, rb⟩ := p
                rw [he1] at hgo
                refine he Hs0 H0 σ2 Hs4 H4 _ R4 y rb he1 _ fun yv Hs5 H5 e5 w5 py => ?_
                have hD4 : H4 Dn = some (.lst acc) := e4.k _ _ nrow (e3.same_none _ _ hacc)
                have hD5 : H5 Dn = some (.lst acc) := e5.k _ _ nrow hD4
                have hs5 : Hs5 Dn = none := e5.p _ (by rw [hD4]; simp) (e4.p _ (by rw [e3.same_none _ _ hacc]; simp) (e3.p _ (by rw [hacc]; simp) hDs2))
                have e25 := (e23.trans e4).trans e5
                cases hl1 : lcGo vs fg ft fe (ds.drop (i + 1)) ((ρ.wr r).wr rb) with
                | none => simp only [hl1] at hgo; cases hgo
                | some p =>
                  obtain ⟨l, rl⟩ := p
                  simp only [hl1] at hgo
                  cases hgo
                  refine ⟨acc, hD5, by rw [hra.length]; exact big_lt (by omega), _, rfl, hlt, Hs5, acc ++ [yv], accD ++ [y], l, rb, ?_, ?_, upd_same, hs5, ?_, by rw [List.length_append, List.length_singleton]; omega, hl1, by rw [List.append_assoc]; exact hfin⟩
                  · have nb : ∀ b o, H1 b = some o → b ≠ Dn := fun b o z e => by rw [e, hD] at z; cases z
                    refine ⟨e25.g, fun b o z => ?_, fun b o n z => by rw [upd_ne (nb b o z)]; exact e25.k b o n z, fun b z => ?_, e25.p⟩
                    · rw [upd_ne (fun e => by rw [e, hs5] at z; cases z)]; exact e25.s b o z
                    · by_cases e : b = Dn
                      · rw [e, upd_same]; simp
                      · rw [upd_ne e]; exact e25.d b z
                  · exact row_upd w1 hD nrow w5
                  · exact (hra.mono ((e3.g.trans e4.g).trans e5.g)).append (.cons py .nil)
      · have ei : i = ds.length := by omega
        subst ei
        rw [List.drop_length] at hgo
        cases hgo
        rw [List.append_nil] at hfin
        subst hfin
        refine .inl ⟨W.stop Hs2 H2 e2.g e2.s (.inl kp), q _ Hs2 H2 (e1.trans e2) w2 ⟨Dn, acc, rfl, ?_, hacc, hDs2, hra⟩⟩
        cases z : H Dn with
        | none => rfl
        | some u => exact absurd hD (e1.d Dn (by rw [z]; simp))
  · rw [if_neg hz] at h5; cases h5
end DL

namespace DL
open PySem PySem.Spec PyProof.Rows L2
structure DTs (X : Cx) (rc : Rc) (es : List Expr) (t : TT) (f : MM Bool) : Prop where
  pe : PTs X es t
  se : Sem X.K rc PT_ t f
/-! ### statements -/
inductive Oc where
  | nx (ρ : Ev)
  | ret (d : D) (w : Row)
  | bk (ρ : Ev)
  | ct (ρ : Ev)
abbrev MS := Ev → Option Oc
def Post (K : PySem.W.Frag) (rc : Rc) (Hs0 H0 Hs : Hp) (E : Ends) : Oc → Prop
  | .nx ρ' => ∀ σ' Hs' H', Same Hs Hs' → Rel K rc Hs0 H0 σ' Hs' H' ρ' → E.nx σ' H'
  | .bk ρ' => ∀ σ' Hs' H', Same Hs Hs' → Rel K rc Hs0 H0 σ' Hs' H' ρ' → E.bk σ' H'
  | .ct ρ' => ∀ σ' Hs' H', Same Hs Hs' → Rel K rc Hs0 H0 σ' Hs' H' ρ' → E.ct σ' H'
  | .ret d w => ∀ v Hs' H', Ext rc Hs0 H0 Hs' H' → RowAt K rc H' w → Rp K Hs' v d → E.rt v H'
def SemS (K : PySem.W.Frag) (rc : Rc) (t : TS) (g : MS) : Prop :=
  ∀ Hs0 H0 σ Hs H ρ, Rel K rc Hs0 H0 σ Hs H ρ → ∀ oc, g ρ = some oc → ∀ E : Ends, Post K rc Hs0 H0 Hs E oc → t E σ H
structure DS (X : Cx) (rc : Rc) (st : Stmt) (t : TS) (g : MS) : Prop where
  ps : PS X st t
  se : SemS X.K rc t g
structure DSs (X : Cx) (rc : Rc) (st : List Stmt) (t : TS) (g : MS) : Prop where
  ps : PSs X st t
  se : SemS X.K rc t g
theorem Post.weak {K : PySem.W.Frag} {rc : Rc} {Hs0 H0 Hs Hs1 : Hp} {E : Ends} (g : Same Hs Hs1) : ∀ {oc : Oc}, Post K rc Hs0 H0 Hs E oc → Post K rc Hs0 H0 Hs1 E oc
  | .nx _, p => fun σ' Hs' H' s R => p σ' Hs' H' (g.trans s) R
  | .bk _, p => fun σ' Hs' H' s R => p σ' Hs' H' (g.trans s) R
  | .ct _, p => fun σ' Hs' H' s R => p σ' Hs' H' (g.trans s) R
  | .ret _ _, p => p
section
variable {K : PySem.W.Frag} {rc : Rc} {te : TE} {f : MM D} {fl : MM (List D)} {i : Nat}
def NewF (K : PySem.W.Frag) (rc : Rc) (te : TE) (f : MM (List D)) : Prop := ∀ Hs0 H0 σ Hs H ρ, Rel K rc Hs0 H0 σ Hs H ρ → ∀ b r, f ρ = some (b, r) → ∀ Q : V → Hp → Prop, (∀ a Hs' H', Ext rc Hs H Hs' H' → RowAt K rc H' r → (∃ p vs, a = .ref p ∧ H p = none ∧ H' p = some (.lst vs) ∧ Hs' p = none ∧ RpAll K Hs' vs b) → Q a H') → te σ H Q
def gSet (i : Nat) (f : MM D) : MS := fun ρ => match f ρ with
  | some (d, r) => some (.nx ((ρ.wr r).set i (.s d)))
  | none => none
def gSetO (i : Nat) (f : MM (List D)) : MS := fun ρ => match f ρ with
  | some (d, r) => some (.nx ((ρ.wr r).set i (.o d)))
  | none => none
theorem sem_setE (h : Sem K rc (PE_ K) te f) : SemS K rc (tAsg te (gName i)) (gSet i f) := fun Hs0 H0 σ Hs H ρ R oc hf E P => by
  unfold gSet at hf
  cases e : f ρ with
  | none => rw [e] at hf; cases hf
  | some p =>
    obtain ⟨d, r⟩ := p
    rw [e] at hf
    cases hf
    exact h Hs0 H0 σ Hs H ρ R d r e _ fun v Hs1 H1 e1 w1 p1 => P _ Hs1 H1 e1.g ((R.ext' e1 w1).set p1)
theorem Rel.fresh0 {Hs0 H0 Hs H : Hp} {σ : L2.St} {ρ : Ev} (R : Rel K rc Hs0 H0 σ Hs H ρ) {p : Addr} (h : H p = none) : H0 p = none := by
  cases z : H0 p with
  | none => rfl
  | some u => exact absurd h (R.ext.d p (by rw [z]; simp))
theorem Rel.notOwn {Hs0 H0 Hs H : Hp} {σ : L2.St} {ρ : Ev} (R : Rel K rc Hs0 H0 σ Hs H ρ) {p : Addr} (h : H p = none) (j : Nat) (hj : (ρ.get j).own) : σ[j]? ≠ some (some (.ref p)) := fun e => by
  have q := R.sl j
  cases hx : ρ.get j with
  | o ds =>
    rw [hx] at q
    obtain ⟨p2, v2, f1, f2, _⟩ := q
    rw [e] at f1
    cases f1
    rw [h] at f2
    cases f2
  | _ => rw [hx] at hj; exact hj.elim
theorem sem_setO (h : NewF K rc te fl) : SemS K rc (tAsg te (gName i)) (gSetO i fl) := fun Hs0 H0 σ Hs H ρ R oc hf E P => by
  unfold gSetO at hf
  cases e : fl ρ with
  | none => rw [e] at hf; cases hf
  | some p =>
    obtain ⟨d, r⟩ := p
    rw [e] at hf
    cases hf
    refine h Hs0 H0 σ Hs H ρ R d r e _ fun v Hs1 H1 e1 w1 ⟨p, vs, ev, hn, hp, hs, hr⟩ => ?_
    subst ev
    refine P _ Hs1 H1 e1.g ((R.ext' e1 w1).setO hp hs (R.fresh0 hn) hr fun j hj _ => ?_)
    exact R.notOwn hn j hj
theorem NewF.e (h : NewF K rc te fl) : Sem K rc (PE_ K) te (mBind fl fun ds => mRet (.list ds)) := fun Hs0 H0 σ Hs H ρ R b r hf Q q => by
  obtain ⟨ds, r1, h1, h2⟩ := mBind_some hf
  cases h2
  refine h Hs0 H0 σ Hs H ρ R ds _ h1 Q fun v Hs' H' e w ⟨p, vs, ev, hn, hp, hs, hr⟩ => ?_
  subst ev
  refine q _ (upd Hs' p (.lst vs)) H' ⟨fun b o hb => ?_, fun b o hb => ?_, e.k, e.d, fun b hb hs' => ?_⟩ w ?_
  · have hb' := e.g b o hb
    rw [upd_ne (fun z => by rw [z, hs] at hb'; cases hb')]
    exact hb'
  · by_cases z : b = p
    · subst z; rw [upd_same] at hb; cases hb; exact hp
    · rw [upd_ne z] at hb; exact e.s b o hb
  · have z : b ≠ p := fun z => by rw [z, hn] at hb; exact hb rfl
    rw [upd_ne z]; exact e.p b hb hs'
  · refine .lst upd_same (hr.mono fun b o hb => ?_)
    rw [upd_ne (fun z => by rw [z, hs] at hb; cases hb)]
    exact hb
end
/-- a context's Shared, for what does not depend on it -/
def anyS (X : Cx) : Shared := (start X.prog).1
section
variable {X : Cx} {rc : Rc} {m m' : Bool} {e e2 tg a b c : Expr} {pos p tpos : Pos} {te te2 : TE} {f f2 : MM D} {fl : MM (List D)} {i : Nat} {x : Str}
/-! ### comprehensions -/
theorem dts_nil : DTs X rc [] tYes (mRet true) := ⟨pts_nil, fun Hs0 H0 σ Hs H ρ R d r hf Q q => by
  cases hf
  exact q true Hs H (.refl R.same) R.row rfl⟩
theorem dts_one {c : Expr} {t : TT} {ft : MM Bool} (h : DT X rc c t ft) : DTs X rc [c] t ft := ⟨pts_one h.pe, h.se⟩
section
variable {elt iter : Expr} {ifs : List Expr} {scope : Scope} {own : List (Str × Nat)} {wi : TI} {g : TG} {tt : TT} {fi : MM (List D)} {fg : D → Ev → Option Ev} {ft : MM Bool} {fe : MM D}
theorem df_lc (hc : X.calm = true) (hN : X.N.Nodup) (hi : DI X rc m tg iter wi fi) (ok : BlkOk X.N X.env.scope scope own)
    (hg : ∀ (s : Shared) (H : Hp) (C : Addr) (cl : List (Str × Addr)) (fp : List Addr), DG (X.blk s H scope (compEnvC scope cl C X.env) fp) rc (own.map (·.2)) tg g fg) (ht : ∀ (s : Shared) (H : Hp) (C : Addr) (cl : List (Str × Addr)) (fp : List Addr), DTs (X.blk s H scope (compEnvC scope cl C X.env) fp) rc ifs tt ft)
    (he : ∀ (s : Shared) (H : Hp) (C : Addr) (cl : List (Str × Addr)) (fp : List Addr), DE (X.blk s H scope (compEnvC scope cl C X.env) fp) rc elt te fe) (hs : ∀ x, foldedSetIterable iter X.env x = pure x := by intro _; rfl) :
    DF X rc (.ListComp elt [⟨tg, iter, ifs, 0⟩] scope pos) (tLc wi g tt te (own.map (·.2))) (mLc (own.map (·.2)) fi fg ft fe) :=
  df_of (pe_lc hc hN hi.pi ok (fun s H C cl fp => (hg s H C cl fp).pg) (fun s H C cl fp => (ht s H C cl fp).pe) (fun s H C cl fp => (he s H C cl fp).pe) hs)
    (sem_lc hi.se (hg (anyS X) (fun _ => none) 0 [] []).se (ht (anyS X) (fun _ => none) 0 [] []).se (he (anyS X) (fun _ => none) 0 [] []).se)
theorem ds_setLcO {y : Str} {py spos : Pos} (hc : X.calm = true) (hN : X.N.Nodup) (hy : X.N[i]? = some y) (hyl : X.env.scope.names.lookup y = some .local) (hsw : swapsWith (.ListComp elt [⟨tg, iter, ifs, 0⟩] scope pos) (some (.Name y py)) spos.line X.env = pure true) (hi : DI X rc m tg iter wi fi) (ok : BlkOk X.N X.env.scope scope own)
    (hg : ∀ (s : Shared) (H : Hp) (C : Addr) (cl : List (Str × Addr)) (fp : List Addr), DG (X.blk s H scope (compEnvC scope cl C X.env) fp) rc (own.map (·.2)) tg g fg) (ht : ∀ (s : Shared) (H : Hp) (C : Addr) (cl : List (Str × Addr)) (fp : List Addr), DTs (X.blk s H scope (compEnvC scope cl C X.env) fp) rc ifs tt ft)
    (he : ∀ (s : Shared) (H : Hp) (C : Addr) (cl : List (Str × Addr)) (fp : List Addr), DE (X.blk s H scope (compEnvC scope cl C X.env) fp) rc elt te fe) (hs : ∀ x, foldedSetIterable iter X.env x = pure x := by intro _; rfl) :
    DS X rc (.Assign [.Name y py] (.ListComp elt [⟨tg, iter, ifs, 0⟩] scope pos) spos) (tAsg (tLc wi g tt te (own.map (·.2))) (gName i)) (gSetO i (mLc (own.map (·.2)) fi fg ft fe)) :=
  ⟨ps_setLc hc hN hy hyl hsw hi.pi ok (fun s H C cl fp => (hg s H C cl fp).pg) (fun s H C cl fp => (ht s H C cl fp).pe) (fun s H C cl fp => (he s H C cl fp).pe) hs,
    sem_setO (sem_lc hi.se (hg (anyS X) (fun _ => none) 0 [] []).se (ht (anyS X) (fun _ => none) 0 [] []).se (he (anyS X) (fun _ => none) 0 [] []).se)⟩
theorem ds_setLc {y : Str} {py spos : Pos} (hc : X.calm = true) (hN : X.N.Nodup) (hy : X.N[i]? = some y) (hyl : X.env.scope.names.lookup y = some .local) (hsw : swapsWith (.ListComp elt [⟨tg, iter, ifs, 0⟩] scope pos) (some (.Name y py)) spos.line X.env = pure true) (hi : DI X rc m tg iter wi fi) (ok : BlkOk X.N X.env.scope scope own)
    (hg : ∀ (s : Shared) (H : Hp) (C : Addr) (cl : List (Str × Addr)) (fp : List Addr), DG (X.blk s H scope (compEnvC scope cl C X.env) fp) rc (own.map (·.2)) tg g fg) (ht : ∀ (s : Shared) (H : Hp) (C : Addr) (cl : List (Str × Addr)) (fp : List Addr), DTs (X.blk s H scope (compEnvC scope cl C X.env) fp) rc ifs tt ft)
    (he : ∀ (s : Shared) (H : Hp) (C : Addr) (cl : List (Str × Addr)) (fp : List Addr), DE (X.blk s H scope (compEnvC scope cl C X.env) fp) rc elt te fe) (hs : ∀ x, foldedSetIterable iter X.env x = pure x := by intro _; rfl) :
    DS X rc (.Assign [.Name y py] (.ListComp elt [⟨tg, iter, ifs, 0⟩] scope pos) spos) (tAsg (tLc wi g tt te (own.map (·.2))) (gName i)) (gSet i (mBind (mLc (own.map (·.2)) fi fg ft fe) fun ds => mRet (.list ds))) :=
  ⟨ps_setLc hc hN hy hyl hsw hi.pi ok (fun s H C cl fp => (hg s H C cl fp).pg) (fun s H C cl fp => (ht s H C cl fp).pe) (fun s H C cl fp => (he s H C cl fp).pe) hs,
    sem_setE (NewF.e (sem_lc hi.se (hg (anyS X) (fun _ => none) 0 [] []).se (ht (anyS X) (fun _ => none) 0 [] []).se (he (anyS X) (fun _ => none) 0 [] []).se))⟩
end
/-! ### assignments -/
theorem ds_set {pos' : Pos} (hN : X.N.Nodup) (he : DE X rc e te f) (hi : X.N[i]? = some x := by rfl) (hx : Loc X.env.scope x := by first | exact Or.inl rfl | exact Or.inr rfl) (hs : swapsWith e (some (.Name x pos')) pos.line X.env = pure false := by rfl) (hf : X.fn x = true ∨ X.env.scope.names.lookup x = some .local := by first | exact .inl rfl | exact .inr rfl | assumption) :
    DS X rc (.Assign [.Name x pos'] e pos) (tAsg te (gName i)) (gSet i f) := ⟨ps_set hN hi hx he.pe hs hf, sem_setE he.se⟩
theorem ds_setO {pos' : Pos} (hN : X.N.Nodup) (he : DF X rc e te fl) (hi : X.N[i]? = some x := by rfl) (hx : Loc X.env.scope x := by first | exact Or.inl rfl | exact Or.inr rfl) (hs : swapsWith e (some (.Name x pos')) pos.line X.env = pure false := by rfl) (hf : X.fn x = true ∨ X.env.scope.names.lookup x = some .local := by first | exact .inl rfl | exact .inr rfl | assumption) :
    DS X rc (.Assign [.Name x pos'] e pos) (tAsg te (gName i)) (gSetO i fl) := ⟨ps_set hN hi hx he.pe hs hf, sem_setO he.new⟩
/-- a target that may change a list of one's own -/
def SemX (K : PySem.W.Frag) (rc : Rc) (g : TG) (f : D → Ev → Option Ev) : Prop :=
  ∀ Hs0 H0 σ Hs H ρ v d ρ', Rel K rc Hs0 H0 σ Hs H ρ → Rp K Hs v d → f d ρ = some ρ' → ∀ Q : L2.St → Hp → Prop, (∀ σ' Hs' H', Same Hs Hs' → Rel K rc Hs0 H0 σ' Hs' H' ρ' → Q σ' H') → g v σ H Q
def SemXs (K : PySem.W.Frag) (rc : Rc) (g : TGs) (f : List D → Ev → Option Ev) : Prop :=
  ∀ Hs0 H0 σ Hs H ρ v d ρ', Rel K rc Hs0 H0 σ Hs H ρ → RpAll K Hs v d → f d ρ = some ρ' → ∀ Q : L2.St → Hp → Prop, (∀ σ' Hs' H', Same Hs Hs' → Rel K rc Hs0 H0 σ' Hs' H' ρ' → Q σ' H') → g v σ H Q
structure DX (X : Cx) (rc : Rc) (e : Expr) (g : TG) (f : D → Ev → Option Ev) : Prop where
  pg : PG X e g
  se : SemX X.K rc g f
structure DXs (X : Cx) (rc : Rc) (e : List Expr) (g : TGs) (f : List D → Ev → Option Ev) : Prop where
  pg : PGs X e g
  se : SemXs X.K rc g f
theorem DG.toX {vs : List Nat} {g : TG} {fg : D → Ev → Option Ev} (h : DG X rc vs e g fg) : DX X rc e g fg := ⟨h.pg, fun Hs0 H0 σ Hs H ρ v d ρ' R hp hf Q q => h.se Hs0 H0 σ Hs H ρ v d ρ' R hp hf Q fun σ' R' _ _ => q σ' Hs H (Same.refl _) R'⟩
theorem dxs_nil : DXs X rc [] gNil gtNil := ⟨pgs_nil, fun Hs0 H0 σ Hs H ρ ws ds ρ' R hp hf Q q => by
  cases ds with
  | nil =>
    cases hf
    cases hp
    exact ⟨rfl, q σ Hs H (Same.refl _) R⟩
  | cons _ _ => cases hf⟩
theorem dxs_cons {es : List Expr} {g : TG} {u : TGs} {fg : D → Ev → Option Ev} {fs : List D → Ev → Option Ev} (h1 : DX X rc e g fg) (h2 : DXs X rc es u fs)
    (hs : (assignEach (e :: es) X.env).map (·.2) = assign e X.env :: (assignEach es X.env).map (·.2) := by rfl) : DXs X rc (e :: es) (gCons g u) (gtCons fg fs) := ⟨pgs_cons h1.pg h2.pg hs, fun Hs0 H0 σ Hs H ρ ws ds ρ' R hp hf Q q => by
  cases ds with
  | nil => cases hf
  | cons d r =>
    cases hp with
    | cons p1 p2 =>
      simp only [gtCons] at hf
      cases e1 : fg d ρ with
      | none => rw [e1] at hf; cases hf
      | some ρ1 =>
        rw [e1] at hf
        refine ⟨_, _, rfl, h1.se Hs0 H0 σ Hs H ρ _ d ρ1 R p1 e1 _ fun σ1 Hs1 H1 g1 R1 => ?_⟩
        exact h2.se Hs0 H0 σ1 Hs1 H1 ρ1 _ r ρ' R1 (p2.mono g1) hf Q fun σ2 Hs2 H2 g2 R2 => q σ2 Hs2 H2 (g1.trans g2) R2⟩
theorem dx_tup {es : List Expr} {k : Nat} {u : TGs} {fs : List D → Ev → Option Ev} {n : Nat} (hc : X.calm = true) (h : DXs X rc es u fs)
    (hn : (assignEach es X.env).length = n := by rfl) (hst : (assignEach es X.env).findIdx? (·.1) = none := by rfl) : DX X rc (.Tuple es k pos) (gTup X.K n u) (gtTup n fs) := ⟨pg_tup hc h.pg hn hst, fun Hs0 H0 σ Hs H ρ v d ρ' R hp hf Q q => by
  cases d with
  | tuple ds =>
    simp only [gtTup] at hf
    by_cases hl : ds.length = n
    · rw [if_pos hl] at hf
      obtain ⟨a, xs, rfl, h1, h2⟩ := hp.tup_inv
      exact ⟨a, xs, rfl, seqT_same R.same h1, by rw [h2.length]; exact hl, h.se Hs0 H0 σ Hs H ρ xs ds ρ' R h2 hf Q q⟩
    · rw [if_neg hl] at hf; cases hf
  | _ => cases hf⟩
/-- x[i] = .. -/
def gtSub (i : Nat) (fi : MM D) (d : D) (ρ : Ev) : Option Ev := match fi ρ with
  | some (.int k, r) => (match (ρ.wr r).get i with
    | .o ds => (match ixN ds.length k with
      | some j => some ((ρ.wr r).set i (.o (ds.set j d)))
      | none => none)
    | _ => none)
  | _ => none
theorem dx_sub (hi : DE X rc e te f) (hN : X.N[i]? = some x := by rfl) (hv : Vis X.env.scope x := by first | exact Or.inl rfl | exact Or.inr (Or.inl rfl) | exact Or.inr (Or.inr rfl)) (hd : (x == ("__debug__" : Str)) = false := by decide)
    (hcd : (x == ("__classdict__" : Str)) = false := by decide)
    (ha : ∀ v, assign (.Subscript (.Name x p) e pos) X.env v = (do
      let ov ← holding [v] (eval (.Name x p) X.env)
      let iv ← holding [v, ov] (eval e X.env)
      standAt pos
      holding [v, ov, iv] (setItem ov iv v)
      release [v, ov, iv] []) := by intro _; rfl) : DX X rc (.Subscript (.Name x p) e pos) (gSub (tVar i) te rSetL) (gtSub i f) := ⟨pg_sub (pe_var hN hv hd hcd) hi.pe set_list ha, fun Hs0 H0 σ Hs H ρ v d ρ' R hp hf Q q => by
  unfold gtSub at hf
  cases e1 : f ρ with
  | none => rw [e1] at hf; cases hf
  | some pr =>
    obtain ⟨kd, r⟩ := pr
    rw [e1] at hf
    cases kd with
    | int k =>
      simp only at hf
      cases e2 : (ρ.wr r).get i with
      | o ds =>
        rw [e2] at hf
        simp only at hf
        cases e3 : ixN ds.length k with
        | none => rw [e3] at hf; cases hf
        | some j =>
          rw [e3] at hf
          cases hf
          have hs := R.sl i
          have e2' : ρ.get i = .o ds := e2
          rw [e2'] at hs
          obtain ⟨pp, vs, h1, h2, h3, h4, h5, h6⟩ := hs
          refine ⟨_, h1, ?_⟩
          refine hi.se Hs0 H0 σ Hs H ρ R _ r e1 _ fun y Hs1 H1 ex w1 p1 => ?_
          have R1 := R.ext' ex w1
          refine ⟨pp, vs, k, j, rfl, p1.int_inv, ex.k _ _ h5 h2, by rw [h6.length]; exact e3, ?_⟩
          exact q σ Hs1 _ ex.g (R1.upd e2 h1 ((h6.mono ex.g).set (hp.mono ex.g) j))
      | _ => rw [e2] at hf; cases hf
    | _ => cases hf⟩
def gAsg (f : MM D) (fg : D → Ev → Option Ev) : MS := fun ρ => match f ρ with
  | some (d, r) => (match fg d (ρ.wr r) with
    | some ρ' => some (.nx ρ')
    | none => none)
  | none => none
theorem ds_asg {g : TG} {fg : D → Ev → Option Ev} (he : DE X rc e te f) (hg : DX X rc tg g fg) (hs : swapsWithSole [tg] e pos.line X.env = pure false := by rfl) (hw : swappedStores [tg] e X.env = pure none := by rfl)
    (h1 : (assignEach [tg] X.env).map (·.2) = [assign tg X.env] := by rfl) : DS X rc (.Assign [tg] e pos) (tAsg te g) (gAsg f fg) := ⟨ps_asg he.pe hg.pg hs hw h1, fun Hs0 H0 σ Hs H ρ R oc hf E P => by
  unfold gAsg at hf
  cases e1 : f ρ with
  | none => rw [e1] at hf; cases hf
  | some pr =>
    obtain ⟨d, r⟩ := pr
    rw [e1] at hf
    simp only at hf
    cases e2 : fg d (ρ.wr r) with
    | none => rw [e2] at hf; cases hf
    | some ρ' =>
      rw [e2] at hf
      cases hf
      refine he.se Hs0 H0 σ Hs H ρ R d r e1 _ fun v Hs1 H1 ex w1 p1 => ?_
      exact hg.se Hs0 H0 σ Hs1 H1 _ v d ρ' (R.ext' ex w1) p1 e2 _ fun σ' Hs' H' g' R' => P σ' Hs' H' (ex.g.trans g') R'⟩
/-! ### methods of a list of one's own -/
def gAppend (i : Nat) (f : MM D) : MS := fun ρ => match f ρ with
  | some (d, r) => (match (ρ.wr r).get i with
    | .o ds => if ds.length < 1000000 then some (.nx ((ρ.wr r).set i (.o (ds ++ [d])))) else none
    | _ => none)
  | none => none
theorem ds_append {apos cpos pos p : Pos} (he : DE X rc e te f) (hN : X.N[i]? = some x := by rfl) (hv : Vis X.env.scope x := by first | exact Or.inl rfl | exact Or.inr (Or.inl rfl) | exact Or.inr (Or.inr rfl)) (hd : (x == ("__debug__" : Str)) = false := by decide)
    (hcd : (x == ("__classdict__" : Str)) = false := by decide)
    (hp : PE X (.Call (.Attribute (.Name x p) "append" apos) [e] [] cpos) (tBM X.K "list" rAppend (tVar i) (tCons te tNil)))
    (hs : swapsWith (.Call (.Attribute (.Name x p) "append" apos) [e] [] cpos) none pos.line X.env = pure false := by rfl) :
    DS X rc (.Expr (.Call (.Attribute (.Name x p) "append" apos) [e] [] cpos) pos) (tDrop (tBM X.K "list" rAppend (tVar i) (tCons te tNil))) (gAppend i f) := ⟨ps_expr hp hs, fun Hs0 H0 σ Hs H ρ R oc hf E P => by
  unfold gAppend at hf
  cases e1 : f ρ with
  | none => rw [e1] at hf; cases hf
  | some pr =>
    obtain ⟨d, r⟩ := pr
    rw [e1] at hf
    simp only at hf
    cases e2 : (ρ.wr r).get i with
    | o ds =>
      rw [e2] at hf
      simp only at hf
      by_cases hl : ds.length < 1000000
      · rw [if_pos hl] at hf
        cases hf
        have hs := R.sl i
        have e2' : ρ.get i = .o ds := e2
        rw [e2'] at hs
        obtain ⟨pp, vs, h1, h2, h3, h4, h5, h6⟩ := hs
        refine ⟨_, h1, .inl ⟨rfl, _, SqL.of h2⟩, ?_⟩
        refine he.se Hs0 H0 σ Hs H ρ R _ r e1 _ fun y Hs1 H1 ex w1 p1 => ?_
        have R1 := R.ext' ex w1
        refine ⟨pp, vs, y, rfl, rfl, ex.k _ _ h5 h2, by rw [h6.length]; exact big_lt hl, ?_⟩
        exact P σ Hs1 _ ex.g (R1.upd e2 h1 ((h6.mono ex.g).append (.cons p1 .nil)))
      · rw [if_neg hl] at hf; cases hf
    | _ => rw [e2] at hf; cases hf⟩
theorem pe_append {apos cpos p : Pos} (hx : PE X (.Name x p) (tVar i)) (he : DE X rc e te f) (hb : attributeBase (.Name x p) "append" X.env (eval (.Name x p) X.env) = eval (.Name x p) X.env := by rfl)
    (h2 : (((backTo cpos (starEach [e] X.env)).all (!·.1) && (backToKw cpos (keywordEach [] X.env)).all (·.1.isSome)) && decide (([e].length + ([] : List Keyword).length + if ([] : List Keyword).isEmpty = true then 0 else 1) < 30)) = true := by rfl)
    (h3 : (apos.endLine == cpos.line) = true := by rfl) (h4 : starEach (e :: []) X.env = (false, eval e X.env) :: starEach [] X.env := by rfl) (h5 : (backTo cpos (starEach [] X.env)).any (·.1) = false := by rfl) :
    PE X (.Call (.Attribute (.Name x p) "append" apos) [e] [] cpos) (tBM X.K "list" rAppend (tVar i) (tCons te tNil)) :=
  pe_bm PySem.F.plainAttrs_list PySem.F.slot_list_append PySem.F.type_list_append mt_append hx (pa_cons he.pe pa_nil h4) hb h2 h3 h4 h5
def gExtend (i : Nat) (f : MM D) : MS := fun ρ => match f ρ with
  | some (.list ys, r) => (match (ρ.wr r).get i with
    | .o ds => if ds.length + ys.length ≤ 1000000 then some (.nx ((ρ.wr r).set i (.o (ds ++ ys)))) else none
    | _ => none)
  | _ => none
theorem ds_extend {apos cpos pos p : Pos} (he : DB X rc m e te f) (hN : X.N[i]? = some x := by rfl) (hv : Vis X.env.scope x := by first | exact Or.inl rfl | exact Or.inr (Or.inl rfl) | exact Or.inr (Or.inr rfl))
    (hp : PE X (.Call (.Attribute (.Name x p) "extend" apos) [e] [] cpos) (tBM X.K "list" rExtend (tVar i) (tCons te tNil)))
    (hs : swapsWith (.Call (.Attribute (.Name x p) "extend" apos) [e] [] cpos) none pos.line X.env = pure false := by rfl) :
    DS X rc (.Expr (.Call (.Attribute (.Name x p) "extend" apos) [e] [] cpos) pos) (tDrop (tBM X.K "list" rExtend (tVar i) (tCons te tNil))) (gExtend i f) := ⟨ps_expr hp hs, fun Hs0 H0 σ Hs H ρ R oc hf E P => by
  unfold gExtend at hf
  cases e1 : f ρ with
  | none => rw [e1] at hf; cases hf
  | some pr =>
    obtain ⟨d, r⟩ := pr
    rw [e1] at hf
    cases d with
    | list ys =>
      simp only at hf
      cases e2 : (ρ.wr r).get i with
      | o ds =>
        rw [e2] at hf
        simp only at hf
        by_cases hl : ds.length + ys.length ≤ 1000000
        · rw [if_pos hl] at hf
          cases hf
          have hs := R.sl i
          have e2' : ρ.get i = .o ds := e2
          rw [e2'] at hs
          obtain ⟨pp, vs, h1, h2, h3, h4, h5, h6⟩ := hs
          refine ⟨_, h1, .inl ⟨rfl, _, SqL.of h2⟩, ?_⟩
          refine he.se Hs0 H0 σ Hs H ρ R _ r e1 _ fun y Hs1 H1 ex w1 p1 => ?_
          have R1 := R.ext' ex w1
          obtain ⟨q, zs, rfl, h7, h8⟩ := p1.b.lst_inv ex.s
          refine ⟨pp, q, vs, zs, rfl, rfl, ex.k _ _ h5 h2, h7, by rw [h6.length, h8.length]; exact big_line hl, ?_⟩
          exact P σ Hs1 _ ex.g (R1.upd e2 h1 ((h6.mono ex.g).append h8))
        · rw [if_neg hl] at hf; cases hf
      | _ => rw [e2] at hf; cases hf
    | _ => cases hf⟩
theorem pe_extend {apos cpos p : Pos} (hx : PE X (.Name x p) (tVar i)) (he : DB X rc m e te f) (hb : attributeBase (.Name x p) "extend" X.env (eval (.Name x p) X.env) = eval (.Name x p) X.env := by rfl)
    (h2 : (((backTo cpos (starEach [e] X.env)).all (!·.1) && (backToKw cpos (keywordEach [] X.env)).all (·.1.isSome)) && decide (([e].length + ([] : List Keyword).length + if ([] : List Keyword).isEmpty = true then 0 else 1) < 30)) = true := by rfl)
    (h3 : (apos.endLine == cpos.line) = true := by rfl) (h4 : starEach (e :: []) X.env = (false, eval e X.env) :: starEach [] X.env := by rfl) (h5 : (backTo cpos (starEach [] X.env)).any (·.1) = false := by rfl) :
    PE X (.Call (.Attribute (.Name x p) "extend" apos) [e] [] cpos) (tBM X.K "list" rExtend (tVar i) (tCons te tNil)) :=
  pe_bm PySem.F.plainAttrs_list PySem.F.slot_list_extend PySem.F.type_list_extend mt_extend hx (pa_cons he.pe pa_nil h4) hb h2 h3 h4 h5
/-! ### blocks, ifs, returns -/
variable {st : Stmt} {rest : List Stmt} {t u : TS} {g g' : MS}
def gSeq (g g' : MS) : MS := fun ρ => match g ρ with
  | some (.nx ρ') => g' ρ'
  | o => o
def gSkip : MS := fun ρ => some (.nx ρ)
theorem dss_nil : DSs X rc [] tNext gSkip := ⟨pss_nil, fun Hs0 H0 σ Hs H ρ R oc hf E P => by
  cases hf
  exact P σ Hs H (Same.refl _) R⟩
theorem dss_one (h : DS X rc st t g) : DSs X rc [st] t g := ⟨pss_one h.ps, h.se⟩
theorem sem_seq {K : PySem.W.Frag} (h1 : SemS K rc t g) (h2 : SemS K rc u g') : SemS K rc (tSeq t u) (gSeq g g') := fun Hs0 H0 σ Hs H ρ R oc hf E P => by
  unfold gSeq at hf
  cases e1 : g ρ with
  | none => rw [e1] at hf; cases hf
  | some o =>
    rw [e1] at hf
    cases o with
    | nx ρ' => exact h1 Hs0 H0 σ Hs H ρ R _ e1 _ fun σ' Hs' H' gg R' => h2 Hs0 H0 σ' Hs' H' ρ' R' oc hf E (P.weak gg)
    | ret d w => cases hf; exact h1 Hs0 H0 σ Hs H ρ R _ e1 _ P
    | bk ρ' => cases hf; exact h1 Hs0 H0 σ Hs H ρ R _ e1 _ P
    | ct ρ' => cases hf; exact h1 Hs0 H0 σ Hs H ρ R _ e1 _ P
theorem dss_cons (h1 : DS X rc st t g) (h2 : DSs X rc rest u g') : DSs X rc (st :: rest) (tSeq t u) (gSeq g g') := ⟨pss_cons h1.ps h2.ps, sem_seq h1.se h2.se⟩
def gIf (ft : MM Bool) (g g' : MS) : MS := fun ρ => match ft ρ with
  | some (b, r) => if b = true then g (ρ.wr r) else g' (ρ.wr r)
  | none => none
theorem ds_if {c : Expr} {a b : List Stmt} {tt : TT} {ft : MM Bool} (hc : DT X rc c tt ft) (ha : DSs X rc a t g) (hb : DSs X rc b u g') : DS X rc (.If c a b pos) (tIfS tt t u) (gIf ft g g') := ⟨ps_if hc.pe ha.ps hb.ps, fun Hs0 H0 σ Hs H ρ R oc hf E P => by
  unfold gIf at hf
  cases e1 : ft ρ with
  | none => rw [e1] at hf; cases hf
  | some pr =>
    obtain ⟨k, r⟩ := pr
    rw [e1] at hf
    refine hc.se Hs0 H0 σ Hs H ρ R k r e1 _ fun k' Hs1 H1 ex w1 pk => ?_
    cases pk
    cases k with
    | true => rw [if_pos rfl]; exact ha.se Hs0 H0 σ Hs1 H1 _ (R.ext' ex w1) oc hf E (P.weak ex.g)
    | false => rw [if_neg Bool.false_ne_true]; exact hb.se Hs0 H0 σ Hs1 H1 _ (R.ext' ex w1) oc hf E (P.weak ex.g)⟩
def gRet (f : MM D) : MS := fun ρ => match f ρ with
  | some (d, r) => some (.ret d r)
  | none => none
theorem ds_ret (he : DE X rc e te f) : DS X rc (.Return (some e) pos) (tRet te) (gRet f) := ⟨ps_ret he.pe, fun Hs0 H0 σ Hs H ρ R oc hf E P => by
  unfold gRet at hf
  cases e1 : f ρ with
  | none => rw [e1] at hf; cases hf
  | some pr =>
    obtain ⟨d, r⟩ := pr
    rw [e1] at hf
    cases hf
    exact he.se Hs0 H0 σ Hs H ρ R d r e1 _ fun v Hs1 H1 ex w1 p1 => P v Hs1 H1 (R.ext.trans ex) w1 p1⟩
def gDrop (f : MM D) : MS := fun ρ => match f ρ with
  | some (_, r) => some (.nx (ρ.wr r))
  | none => none
theorem ds_expr (he : DE X rc e te f) (hs : swapsWith e none pos.line X.env = pure false := by rfl) : DS X rc (.Expr e pos) (tDrop te) (gDrop f) := ⟨ps_expr he.pe hs, fun Hs0 H0 σ Hs H ρ R oc hf E P => by
  unfold gDrop at hf
  cases e1 : f ρ with
  | none => rw [e1] at hf; cases hf
  | some pr =>
    obtain ⟨d, r⟩ := pr
    rw [e1] at hf
    cases hf
    exact he.se Hs0 H0 σ Hs H ρ R d r e1 _ fun v Hs1 H1 ex w1 p1 => P σ Hs1 H1 ex.g (R.ext' ex w1)⟩
def gNone : MS := fun _ => none
theorem ds_never : DS X rc st tNever gNone := ⟨ps_never, fun Hs0 H0 σ Hs H ρ R oc hf E P => by cases hf⟩
theorem ds_pass : DS X rc (.Pass pos) tNext gSkip := ⟨ps_pass, fun Hs0 H0 σ Hs H ρ R oc hf E P => by
  cases hf
  exact P σ Hs H (Same.refl _) R⟩
/-- a list of one's own is shared from here on -/
def Ev.fz (ρ : Ev) (i : Nat) : Ev := match ρ.get i with
  | .o ds => ρ.set i (.s (.list ds))
  | _ => ρ
def gFz (i : Nat) (g : MS) : MS := fun ρ => g (ρ.fz i)
theorem Rel.fz {K : PySem.W.Frag} {Hs0 H0 Hs H : Hp} {σ : L2.St} {ρ : Ev} (R : Rel K rc Hs0 H0 σ Hs H ρ) (i : Nat) : ∃ Hs', Same Hs Hs' ∧ Rel K rc Hs0 H0 σ Hs' H (ρ.fz i) := by
  cases e : ρ.get i with
  | o ds =>
    have hs := R.sl i
    rw [e] at hs
    obtain ⟨p, vs, h1, h2, h3, h4, h5, h6⟩ := hs
    have ef : ρ.fz i = ρ.set i (.s (.list ds)) := by unfold Ev.fz; rw [e]
    have g : Same Hs (L2.upd Hs p (.lst vs)) := fun b o z => by
      rw [upd_ne (fun q => by rw [q, h3] at z; cases z)]; exact z
    have s : Same (L2.upd Hs p (.lst vs)) H := fun b o z => by
      by_cases q : b = p
      · rw [q, upd_same] at z; cases z; rw [q]; exact h2
      · rw [upd_ne q] at z; exact R.same b o z
    refine ⟨L2.upd Hs p (.lst vs), g, ?_⟩
    rw [ef]
    have hin : i < ρ.sl.length := by rw [← R.len]; exact (List.getElem?_eq_some_iff.mp h1).1
    have hl : (ρ.set i (.s (.list ds))).sl.length = ρ.sl.length := by simp [Ev.set]
    have key : ∀ j, ((ρ.set i (.s (.list ds))).get j).own → i ≠ j ∧ (ρ.get j).own := fun j h => by
      rw [Ev.get_set] at h
      by_cases hij : i = j ∧ i < ρ.sl.length
      · rw [if_pos hij] at h; exact h.elim
      · rw [if_neg hij] at h
        exact ⟨fun z => hij ⟨z, hin⟩, h⟩
    refine ⟨⟨R.ext.g.trans g, s, R.ext.k, R.ext.d, fun b hb hn => ?_⟩, R.s0, R.row, R.rn, R.scr, by rw [hl]; exact R.len, fun j => ?_, fun j k q hjk hj hk => R.dis j k q hjk (key j hj).2 (key k hk).2⟩
    · rw [upd_ne (fun z => hb (by rw [z]; exact h4))]
      exact R.ext.p b hb hn
    · rw [Ev.get_set]
      by_cases hij : i = j ∧ i < ρ.sl.length
      · rw [if_pos hij, ← hij.1]
        exact ⟨_, h1, .lst upd_same (h6.mono g)⟩
      · rw [if_neg hij]
        have nij : i ≠ j := fun z => hij ⟨z, hin⟩
        have q := R.sl j
        cases hx : ρ.get j with
        | no => trivial
        | s d => rw [hx] at q; obtain ⟨v, q1, q2⟩ := q; exact ⟨v, q1, q2.mono g⟩
        | o dj =>
          rw [hx] at q
          obtain ⟨p2, v2, f1, f2, f3, f4, f5, f6⟩ := q
          have np : p2 ≠ p := fun z => by
            subst z
            exact R.dis i j p2 nij (by rw [e]; trivial) (by rw [hx]; trivial) h1 f1
          exact ⟨p2, v2, f1, f2, by rw [upd_ne np]; exact f3, f4, f5, f6.mono g⟩
        | b d => rw [hx] at q; obtain ⟨v, q1, q2, q3⟩ := q; exact ⟨v, q1, q2, q3.monoS g⟩
        | row => rw [hx] at q; exact q
  | _ =>
    have ef : ρ.fz i = ρ := by unfold Ev.fz; rw [e]
    exact ⟨Hs, Same.refl _, by rw [ef]; exact R⟩
theorem ds_fz (i : Nat) (h : DS X rc st t g) : DS X rc st t (gFz i g) := ⟨h.ps, fun Hs0 H0 σ Hs H ρ R oc hf E P => by
  obtain ⟨Hs', g', R'⟩ := R.fz i
  exact h.se Hs0 H0 σ Hs' H _ R' oc hf E (P.weak g')⟩
/-! ### for, while -/
def forGo (fg : D → Ev → Option Ev) (body : MS) : List D → MS
  | [] => fun ρ => some (.nx ρ)
  | d :: ds => fun ρ => match fg d ρ with
    | none => none
    | some ρ1 => match body ρ1 with
      | some (.nx ρ2) => forGo fg body ds ρ2
      | some (.ct ρ2) => forGo fg body ds ρ2
      | some (.bk ρ2) => some (.nx ρ2)
      | some (.ret d w) => some (.ret d w)
      | none => none
def gFor (fi : MM (List D)) (fg : D → Ev → Option Ev) (body : MS) : MS := fun ρ => match fi ρ with
  | some (ds, r) => forGo fg body ds (ρ.wr r)
  | none => none
theorem ds_for {iter : Expr} {body : List Stmt} {wi : TI} {gg : TG} {vs : List Nat} {fi : MM (List D)} {fg : D → Ev → Option Ev} (hp : PassesOwn (model X.prog X.w) X.A X.env X.xe) (hc : X.calm = true) (hi : DI X rc true tg iter wi fi) (hg : DG X rc vs tg gg fg) (hb : DSs X rc body t g)
    (hs : ∀ x, foldedSetIterable iter X.env x = pure x := by intro _; rfl) : DS X rc (.For tg iter body [] pos) (tFor wi gg t) (gFor fi fg g) := ⟨ps_for hp hc hi.pi hg.pg hb.ps hs, fun Hs0 H0 σ Hs H ρ R oc hf E P => by
  unfold gFor at hf
  cases e1 : fi ρ with
  | none => rw [e1] at hf; cases hf
  | some pr =>
    obtain ⟨ds, r⟩ := pr
    rw [e1] at hf
    refine hi.se Hs0 H0 σ Hs H ρ R ds r e1 _ fun J Hs1 H1 ex w1 W => ?_
    have R1 := R.ext' ex w1
    refine ⟨fun i n σ2 H2 => n = ds.length - i ∧ i ≤ ds.length ∧ ∃ Hs2 ρ2, Same Hs1 Hs2 ∧ Rel X.K rc Hs0 H0 σ2 Hs2 H2 ρ2 ∧ forGo fg g (ds.drop i) ρ2 = some oc, ⟨ds.length, by simp, Nat.zero_le _, Hs1, _, Same.refl _, R1, hf⟩, ?_⟩
    rintro i n σ2 H2 ⟨rfl, hin, Hs2, ρ2, g2, R2, hgo⟩
    have kp : Kp rc H1 H2 ∨ true = true ∧ Kp rc H0 H2 := .inr ⟨rfl, R2.ext.k⟩
    by_cases hlt : i < ds.length
    · refine .inr ⟨W.go i Hs2 H2 g2 R2.same kp hlt, fun σ3 H3 => i + 1 ≤ ds.length ∧ ∃ Hs3 ρ3, Same Hs1 Hs3 ∧ Rel X.K rc Hs0 H0 σ3 Hs3 H3 ρ3 ∧ forGo fg g (ds.drop (i + 1)) ρ3 = some oc, fun σ' H' q => ⟨ds.length - (i + 1), by omega, rfl, q⟩, fun x H3 hy => ?_⟩
      obtain ⟨Hs3, d, e3, hd, hx⟩ := W.yld i Hs2 H2 x H3 g2 R2.same kp hlt hy
      have hgd : ds.drop i = d :: ds.drop (i + 1) := by
        rw [List.drop_eq_getElem_cons hlt]
        have := List.getElem?_eq_getElem hlt
        rw [this] at hd
        cases hd
        rfl
      rw [hgd] at hgo
      simp only [forGo] at hgo
      have R3 : Rel X.K rc Hs0 H0 σ2 Hs3 H3 (ρ2.wr ρ2.row) := R2.ext' e3.of_none (R2.row.keep e3.same_none)
      have R3 : Rel X.K rc Hs0 H0 σ2 Hs3 H3 ρ2 := R3
      have g3 : Same Hs1 Hs3 := g2.trans e3.g
      cases hg1 : fg d ρ2 with
      | none => rw [hg1] at hgo; cases hgo
      | some ρ3 =>
        rw [hg1] at hgo
        refine hg.se Hs0 H0 σ2 Hs3 H3 ρ2 x d ρ3 R3 hx hg1 _ fun σ3 R3' _ _ => ?_
        cases hb1 : g ρ3 with
        | none => simp only [hb1] at hgo; cases hgo
        | some o =>
          refine hb.se Hs0 H0 σ3 Hs3 H3 ρ3 R3' o hb1 _ ?_
          cases o with
          | nx ρ4 =>
            simp only [hb1] at hgo
            exact fun σ' Hs' H' g4 R4 => ⟨hlt, Hs', ρ4, g3.trans g4, R4, hgo⟩
          | ct ρ4 =>
            simp only [hb1] at hgo
            exact fun σ' Hs' H' g4 R4 => ⟨hlt, Hs', ρ4, g3.trans g4, R4, hgo⟩
          | bk ρ4 =>
            simp only [hb1] at hgo
            cases hgo
            exact fun σ' Hs' H' g4 R4 => P σ' Hs' H' (ex.g.trans (g3.trans g4)) R4
          | ret d w =>
            simp only [hb1] at hgo
            cases hgo
            exact P
    · have ei : i = ds.length := by omega
      subst ei
      rw [List.drop_length] at hgo
      cases hgo
      exact .inl ⟨W.stop Hs2 H2 g2 R2.same kp, P σ2 Hs2 H2 (ex.g.trans g2) R2⟩⟩
def whGo (ft : MM Bool) (body : MS) : Nat → MS
  | 0 => fun _ => none
  | n + 1 => fun ρ => match ft ρ with
    | none => none
    | some (b, r) => if b = true then (match body (ρ.wr r) with
        | some (.nx ρ2) => whGo ft body n ρ2
        | some (.ct ρ2) => whGo ft body n ρ2
        | some (.bk ρ2) => some (.nx ρ2)
        | some (.ret d w) => some (.ret d w)
        | none => none)
      else some (.nx (ρ.wr r))
def gWhile (fuel : Ev → Nat) (ft : MM Bool) (body : MS) : MS := fun ρ => whGo ft body (fuel ρ) ρ
theorem ds_while {c : Expr} {body : List Stmt} {tt : TT} {ft : MM Bool} (fuel : Ev → Nat) (hp : PassesOwn (model X.prog X.w) X.A X.env X.xe) (hc : DT X rc c tt ft) (hb : DSs X rc body t g) : DS X rc (.While c body [] pos) (tWhile tt t) (gWhile fuel ft g) := ⟨ps_while hp hc.pe hb.ps, fun Hs0 H0 σ Hs H ρ R oc hf E P => by
  unfold gWhile at hf
  refine ⟨fun n σ2 H2 => ∃ Hs2 ρ2, Same Hs Hs2 ∧ Rel X.K rc Hs0 H0 σ2 Hs2 H2 ρ2 ∧ whGo ft g n ρ2 = some oc, ⟨fuel ρ, Hs, ρ, Same.refl _, R, hf⟩, ?_⟩
  rintro n σ2 H2 ⟨Hs2, ρ2, g2, R2, hgo⟩
  cases n with
  | zero => cases hgo
  | succ n =>
    simp only [whGo] at hgo
    cases ht : ft ρ2 with
    | none => rw [ht] at hgo; cases hgo
    | some pr =>
      obtain ⟨b, r⟩ := pr
      rw [ht] at hgo
      refine hc.se Hs0 H0 σ2 Hs2 H2 ρ2 R2 b r ht _ fun b' Hs3 H3 ex w3 pb => ?_
      cases pb
      have R3 := R2.ext' ex w3
      have g3 := g2.trans ex.g
      cases b with
      | true =>
        simp only [if_true] at hgo
        rw [if_pos rfl]
        refine ⟨fun σ4 H4 => ∃ Hs4 ρ4, Same Hs Hs4 ∧ Rel X.K rc Hs0 H0 σ4 Hs4 H4 ρ4 ∧ whGo ft g n ρ4 = some oc, fun σ' H' q => ⟨n, Nat.lt_succ_self n, q⟩, ?_⟩
        cases hb1 : g (ρ2.wr r) with
        | none => simp only [hb1] at hgo; cases hgo
        | some o =>
          refine hb.se Hs0 H0 σ2 Hs3 H3 _ R3 o hb1 _ ?_
          cases o with
          | nx ρ4 =>
            simp only [hb1] at hgo
            exact fun σ' Hs' H' g4 R4 => ⟨Hs', ρ4, g3.trans g4, R4, hgo⟩
          | ct ρ4 =>
            simp only [hb1] at hgo
            exact fun σ' Hs' H' g4 R4 => ⟨Hs', ρ4, g3.trans g4, R4, hgo⟩
          | bk ρ4 =>
            simp only [hb1] at hgo
            cases hgo
            exact fun σ' Hs' H' g4 R4 => P σ' Hs' H' (g3.trans g4) R4
          | ret d w =>
            simp only [hb1] at hgo
            cases hgo
            exact P
      | false =>
        simp only [Bool.false_eq_true, if_false] at hgo
        rw [if_neg Bool.false_ne_true]
        cases hgo
        exact P σ2 Hs3 H3 g3 R3⟩
end
end DL

namespace DL
open PySem PySem.Spec PyProof.Rows L2
/-! ### two names at once -/
def FrOk (K : PySem.W.Frag) (H Hs' H' : Hp) (v : V) : Sl → Prop
  | .s d => Rp K Hs' v d
  | .o ds => ∃ p ws, v = .ref p ∧ H p = none ∧ H' p = some (.lst ws) ∧ Hs' p = none ∧ RpAll K Hs' ws ds
  | _ => False
structure DV (X : Cx) (rc : Rc) (e : Expr) (t : TE) (f : MM Sl) : Prop where
  pe : PE X e t
  se : ∀ Hs0 H0 σ Hs H ρ, Rel X.K rc Hs0 H0 σ Hs H ρ → ∀ x r, f ρ = some (x, r) → ∀ Q : V → Hp → Prop, (∀ v Hs' H', Ext rc Hs H Hs' H' → RowAt X.K rc H' r → FrOk X.K H Hs' H' v x → Q v H') → t σ H Q
section
variable {X : Cx} {rc : Rc} {m m' : Bool} {e e2 tg a b c : Expr} {pos p tpos : Pos} {te te2 ta tb : TE} {f f2 : MM D} {fl : MM (List D)} {fa fb : MM Sl} {i j : Nat} {x y : Str} {es : List Expr} {t : TA}
theorem DE.v (h : DE X rc e te f) : DV X rc e te (mBind f fun d => mRet (.s d)) := ⟨h.pe, fun Hs0 H0 σ Hs H ρ R x r hf Q q => by
  obtain ⟨d, r1, h1, h2⟩ := mBind_some hf
  cases h2
  exact h.se Hs0 H0 σ Hs H ρ R d _ h1 Q fun v Hs' H' e w p => q v Hs' H' e w p⟩
theorem DF.v (h : DF X rc e te fl) : DV X rc e te (mBind fl fun d => mRet (.o d)) := ⟨h.pe, fun Hs0 H0 σ Hs H ρ R x r hf Q q => by
  obtain ⟨d, r1, h1, h2⟩ := mBind_some hf
  cases h2
  exact h.new Hs0 H0 σ Hs H ρ R d _ h1 Q fun v Hs' H' e w p => q v Hs' H' e w p⟩
theorem FrOk.ext {K : PySem.W.Frag} {H Hs1 H1 Hs2 H2 : Hp} {v : V} {s : Sl} (nrow : ∀ p, rc.ad = some p → H p ≠ none) (h : FrOk K H Hs1 H1 v s) (ex : Ext rc Hs1 H1 Hs2 H2) : FrOk K H Hs2 H2 v s := by
  cases s with
  | s d => exact Rp.mono ex.g (show Rp K Hs1 v d from h)
  | o ds =>
    obtain ⟨p, ws, h1, h2, h3, h4, h5⟩ := h
    exact ⟨p, ws, h1, h2, ex.k _ _ (fun z => nrow p z h2) h3, ex.p _ (by rw [h3]; simp) h4, h5.mono ex.g⟩
  | _ => exact h.elim
theorem Rel.setV {K : PySem.W.Frag} {Hs0 H0 Hs H Hp' : Hp} {σ : L2.St} {ρ : Ev} (R : Rel K rc Hs0 H0 σ Hs H ρ) {i : Nat} {v : V} {s : Sl} (h0 : ∀ p, Hp' p = none → H0 p = none) (h : FrOk K Hp' Hs H v s) (nw : s.own → ∀ j, (ρ.get j).own → i ≠ j → σ[j]? ≠ some (some v)) :
    Rel K rc Hs0 H0 (σ.set i (some v)) Hs H (ρ.set i s) := by
  cases s with
  | s d => exact R.set (show Rp K Hs v d from h)
  | o ds =>
    obtain ⟨p, ws, rfl, h2, h3, h4, h5⟩ := h
    exact R.setO h3 h4 (h0 p h2) h5 (nw trivial)
  | _ => exact h.elim
def gPar (i j : Nat) (fa fb : MM Sl) : MS := fun ρ => match fa ρ with
  | some (x, r1) => (match fb (ρ.wr r1) with
    | some (y, r2) => some (.nx (((ρ.wr r2).set i x).set j y))
    | none => none)
  | none => none
theorem ds_par {px py pt : Pos} {kt k2 : Nat} {pt2 : Pos} (hc : X.calm = true) (hN : X.N.Nodup) (ha : DV X rc a ta fa) (hb : DV X rc b tb fb) (hij : i ≠ j) (hi : X.N[i]? = some x := by rfl) (hj : X.N[j]? = some y := by rfl)
    (hx : X.env.scope.names.lookup x = some .local := by rfl) (hy : X.env.scope.names.lookup y = some .local := by rfl)
    (h1 : starEach [a, b] X.env = (false, eval a X.env) :: starEach [b] X.env := by rfl) (h2 : starEach [b] X.env = (false, eval b X.env) :: starEach [] X.env := by rfl)
    (hw : swappedStores [.Tuple [.Name x px, .Name y py] kt pt] (.Tuple [a, b] k2 pt2) X.env = pure (some [x, y]) := by rfl)
    (hs : swapsWithSole [.Tuple [.Name x px, .Name y py] kt pt] (.Tuple [a, b] k2 pt2) pos.line X.env = pure false := by rfl) :
    DS X rc (.Assign [.Tuple [.Name x px, .Name y py] kt pt] (.Tuple [a, b] k2 pt2) pos) (tPar i j (tCons ta (tCons tb tNil))) (gPar i j fa fb) := ⟨ps_par hc hN hi hj hij hx hy (pa_cons ha.pe (pa_cons hb.pe pa_nil h2) h1) hw hs, fun Hs0 H0 σ Hs H ρ R oc hf E P => by
  unfold gPar at hf
  cases e1 : fa ρ with
  | none => rw [e1] at hf; cases hf
  | some pr =>
    obtain ⟨xa, r1⟩ := pr
    rw [e1] at hf
    simp only at hf
    cases e2 : fb (ρ.wr r1) with
    | none => rw [e2] at hf; cases hf
    | some pr =>
      obtain ⟨xb, r2⟩ := pr
      rw [e2] at hf
      cases hf
      refine ha.se Hs0 H0 σ Hs H ρ R xa r1 e1 _ fun v Hs1 H1 ex1 w1 p1 => ?_
      have R1 := R.ext' ex1 w1
      refine hb.se Hs0 H0 σ Hs1 H1 _ R1 xb r2 e2 _ fun u Hs2 H2 ex2 w2 p2 => ?_
      refine ⟨v, u, rfl, ?_⟩
      have nrow : ∀ p, rc.ad = some p → H p ≠ none := fun p z => R.ext.d p (R.rn p z).1
      have p1' := p1.ext nrow ex2
      have R2 : Rel X.K rc Hs0 H0 σ Hs2 H2 (ρ.wr r2) := R1.ext' ex2 w2
      have RA := R2.setV (i := i) (fun p z => R.fresh0 z) p1' (fun ho k hk hik => by
        cases xa with
        | o ds =>
          obtain ⟨q, ws, rfl, hq, _⟩ := p1'
          exact R.notOwn hq k hk
        | _ => exact ho.elim)
      refine P _ Hs2 H2 (ex1.g.trans ex2.g) (RA.setV (i := j) (fun p z => R1.fresh0 z) p2 fun ho k hk hjk => ?_)
      cases xb with
      | o ds =>
        obtain ⟨q, ws, rfl, hq, _⟩ := p2
        by_cases hik : i = k
        · subst hik
          by_cases hil : i < σ.length
          · rw [List.getElem?_set_self hil]
            intro z
            cases z
            cases xa with
            | o da =>
              obtain ⟨q2, ws2, e3, h3, h4, _⟩ := p1
              cases e3
              rw [hq] at h4; cases h4
            | s da =>
              rw [Ev.get_set] at hk
              by_cases hc : i = i ∧ i < (ρ.wr r2).sl.length
              · rw [if_pos hc] at hk; exact hk.elim
              · exact hc ⟨rfl, by rw [← R2.len]; exact hil⟩
            | _ => exact p1.elim
          · rw [List.getElem?_eq_none (by rw [List.length_set]; omega)]; simp
        · rw [List.getElem?_set_ne hik]
          have hk' : ((ρ.wr r2).get k).own := by
            rw [Ev.get_set] at hk
            by_cases hc : i = k ∧ i < (ρ.wr r2).sl.length
            · exact absurd hc.1 hik
            · rw [if_neg hc] at hk; exact hk
          exact R1.notOwn hq k hk'
      | _ => exact ho.elim⟩
def gPar3 (i j l : Nat) (fa fb fc : MM D) : MS := fun ρ => match fa ρ with
  | some (x, r1) => (match fb (ρ.wr r1) with
    | some (y, r2) => (match fc (ρ.wr r2) with
      | some (z, r3) => some (.nx ((((ρ.wr r3).set i (.s x)).set j (.s y)).set l (.s z)))
      | none => none)
    | none => none)
  | none => none
theorem ds_par3 {fa fb fc : MM D} {tc : TE} {l : Nat} {z : Str} {px py pz pt : Pos} {kt k2 : Nat} {pt2 : Pos} (hc : X.calm = true) (hN : X.N.Nodup) (ha : DE X rc a ta fa) (hb : DE X rc b tb fb) (hcc : DE X rc c tc fc) (hij : i ≠ j) (hil : i ≠ l) (hjl : j ≠ l) (hi : X.N[i]? = some x := by rfl) (hj : X.N[j]? = some y := by rfl) (hl : X.N[l]? = some z := by rfl)
    (hx : X.env.scope.names.lookup x = some .local := by rfl) (hy : X.env.scope.names.lookup y = some .local := by rfl) (hz : X.env.scope.names.lookup z = some .local := by rfl)
    (h1 : starEach [a, b, c] X.env = (false, eval a X.env) :: starEach [b, c] X.env := by rfl) (h2 : starEach [b, c] X.env = (false, eval b X.env) :: starEach [c] X.env := by rfl) (h3 : starEach [c] X.env = (false, eval c X.env) :: starEach [] X.env := by rfl)
    (hw : swappedStores [.Tuple [.Name x px, .Name y py, .Name z pz] kt pt] (.Tuple [a, b, c] k2 pt2) X.env = pure (some [x, y, z]) := by rfl)
    (hs : swapsWithSole [.Tuple [.Name x px, .Name y py, .Name z pz] kt pt] (.Tuple [a, b, c] k2 pt2) pos.line X.env = pure false := by rfl) :
    DS X rc (.Assign [.Tuple [.Name x px, .Name y py, .Name z pz] kt pt] (.Tuple [a, b, c] k2 pt2) pos) (tPar3 i j l (tCons ta (tCons tb (tCons tc tNil)))) (gPar3 i j l fa fb fc) := ⟨ps_par3 hc hN hi hj hl hij hil hjl hx hy hz (pa_cons ha.pe (pa_cons hb.pe (pa_cons hcc.pe pa_nil h3) h2) h1) hw hs, fun Hs0 H0 σ Hs H ρ R oc hf E P => by
  unfold gPar3 at hf
  cases e1 : fa ρ with
  | none => rw [e1] at hf; cases hf
  | some pr =>
    obtain ⟨xa, r1⟩ := pr
    rw [e1] at hf
    simp only at hf
    cases e2 : fb (ρ.wr r1) with
    | none => rw [e2] at hf; cases hf
    | some pr =>
      obtain ⟨xb, r2⟩ := pr
      rw [e2] at hf
      simp only at hf
      cases e3 : fc (ρ.wr r2) with
      | none => rw [e3] at hf; cases hf
      | some pr =>
        obtain ⟨xc, r3⟩ := pr
        rw [e3] at hf
        cases hf
        refine ha.se Hs0 H0 σ Hs H ρ R xa r1 e1 _ fun v Hs1 H1 ex1 w1 p1 => ?_
        have R1 := R.ext' ex1 w1
        refine hb.se Hs0 H0 σ Hs1 H1 _ R1 xb r2 e2 _ fun u Hs2 H2 ex2 w2 p2 => ?_
        have R2 : Rel X.K rc Hs0 H0 σ Hs2 H2 (ρ.wr r2) := R1.ext' ex2 w2
        refine hcc.se Hs0 H0 σ Hs2 H2 _ R2 xc r3 e3 _ fun u3 Hs3 H3 ex3 w3 p3 => ?_
        have R3 : Rel X.K rc Hs0 H0 σ Hs3 H3 (ρ.wr r3) := R2.ext' ex3 w3
        exact ⟨v, u, u3, rfl, P _ Hs3 H3 ((ex1.g.trans ex2.g).trans ex3.g) (((R3.set (p1.mono (ex2.g.trans ex3.g))).set (p2.mono ex3.g)).set p3)⟩⟩
/-! ### calls of built-ins -/
def CallS (K : PySem.W.Frag) (rc : Rc) (r : List V → Hp → VK → Prop) (op : D → Option D) : Prop := ∀ Hs H x a d, Same Hs H → Bp K Hs H x a → op a = some d →
  ∀ Q : VK, (∀ v Hs' H', Ext rc Hs H Hs' H' → (∀ w, RowAt K rc H w → RowAt K rc H' w) → Rp K Hs' v d → Q v H') → r [x] H Q
theorem sem_call1 {K : PySem.W.Frag} {r : List V → Hp → VK → Prop} {op : D → Option D} (hs : CallS K rc r op) (ha : Sem K rc (PB_ K rc m) te f) : Sem K rc (PE_ K) (tCB r (tCons te tNil)) (mUn op f) := fun Hs0 H0 σ Hs H ρ R d w hf Q q => by
  obtain ⟨a, r1, h1, h2⟩ := mBind_some hf
  obtain ⟨h3, rfl⟩ := mO_some h2
  refine ha Hs0 H0 σ Hs H ρ R a _ h1 _ fun v Hs1 H1 ex1 w1 p1 => ?_
  exact hs Hs1 H1 v a d ex1.s p1.b h3 Q fun v Hs' H' ex2 w2 p2 => q v Hs' H' (ex1.trans ex2) (w2 _ w1) p2
theorem de_callB {id : String} {r : List V → Hp → VK → Prop} {op : D → Option D} (hc : CallR X (.builtin id) r) (hs : CallS X.K rc r op) (ha : DB X rc m a te f) (hm : X.mg x = none) (hv : bootBuiltins x = some (.builtin id)) (hg : Gl X x := by rfl) (hn : x ≠ "__name__" := by decide) (hdb : (x == ("__debug__" : Str)) = false := by decide)
    (he : starEach (a :: []) X.env = (false, eval a X.env) :: starEach [] X.env := by rfl) (hpl : (backTo pos (starEach [] X.env)).any (·.1) = false := by rfl) : DE X rc (.Call (.Name x p) [a] [] pos) (tCB r (tCons te tNil)) (mUn op f) :=
  ⟨L2.pe_callB hc hg hm hv (pa_cons ha.pe pa_nil he) hn hdb he hpl, sem_call1 hs ha.se⟩
theorem de_callTy {T : String} {r : List V → Hp → VK → Prop} {op : D → Option D} (hc : CallR X (.type T) r) (hs : CallS X.K rc r op) (ha : DB X rc m a te f) (hm : X.mg x = none) (hv : bootBuiltins x = some (.type T)) (hg : Gl X x := by rfl) (hn : x ≠ "__name__" := by decide) (hdb : (x == ("__debug__" : Str)) = false := by decide)
    (he : starEach (a :: []) X.env = (false, eval a X.env) :: starEach [] X.env := by rfl) (hpl : (backTo pos (starEach [] X.env)).any (·.1) = false := by rfl) : DE X rc (.Call (.Name x p) [a] [] pos) (tCB r (tCons te tNil)) (mUn op f) :=
  ⟨L2.pe_callTy hc hg hm hv (pa_cons ha.pe pa_nil he) hn hdb he hpl, sem_call1 hs ha.se⟩
def Call2S (K : PySem.W.Frag) (rc : Rc) (r : List V → Hp → VK → Prop) (op : D → D → Option D) : Prop := ∀ Hs H x y a b d, Same Hs H → Bp K Hs H x a → Bp K Hs H y b → op a b = some d →
  ∀ Q : VK, (∀ v Hs' H', Ext rc Hs H Hs' H' → (∀ w, RowAt K rc H w → RowAt K rc H' w) → Rp K Hs' v d → Q v H') → r [x, y] H Q
theorem de_callB2 {id : String} {r : List V → Hp → VK → Prop} {op : D → D → Option D} (hc : CallR X (.builtin id) r) (hs : Call2S X.K rc r op) (ha : DB X rc m a te f) (hb : DB X rc m' b te2 f2) (hm : X.mg x = none) (hv : bootBuiltins x = some (.builtin id)) (hg : Gl X x := by rfl) (hn : x ≠ "__name__" := by decide) (hdb : (x == ("__debug__" : Str)) = false := by decide)
    (he : starEach [a, b] X.env = (false, eval a X.env) :: starEach [b] X.env := by rfl) (he2 : starEach [b] X.env = (false, eval b X.env) :: starEach [] X.env := by rfl) (hpl : (backTo pos (starEach [b] X.env)).any (·.1) = false := by rfl) : DE X rc (.Call (.Name x p) [a, b] [] pos) (tCB r (tCons te (tCons te2 tNil))) (mOp op f f2) :=
  ⟨L2.pe_callB hc hg hm hv (pa_cons ha.pe (pa_cons hb.pe pa_nil he2) he) hn hdb he hpl, fun Hs0 H0 σ Hs H ρ R d w hf Q q => by
    obtain ⟨a, r1, h1, h2⟩ := mBind_some hf
    obtain ⟨b, r2, h3, h4⟩ := mBind_some h2
    obtain ⟨h5, rfl⟩ := mO_some h4
    refine ha.se Hs0 H0 σ Hs H ρ R a r1 h1 _ fun v Hs1 H1 ex1 w1 p1 => ?_
    refine hb.se Hs0 H0 σ Hs1 H1 _ (R.ext' ex1 w1) b _ h3 _ fun u Hs2 H2 ex2 w2 p2 => ?_
    exact hs Hs2 H2 v u a b d ex2.s (p1.ext ex2).b p2.b h5 Q fun v Hs' H' ex3 w3 p3 => q v Hs' H' ((ex1.trans ex2).trans ex3) (w3 _ w2) p3⟩
section
variable {K : PySem.W.Frag}
def dLen (d : D) : Option D := match dItems d with
  | some ds => some (.int (ds.length : Nat))
  | none => none
theorem c_len : CallS X.K rc (fun xs H Q => ∃ p ys, xs = [.ref p] ∧ (SqL X.K H p ys ∨ SqT X.K H p ys) ∧ Q (.int ys.length) H) dLen := fun Hs H x a d e hx ho Q q => by
  unfold dLen at ho
  cases a with
  | list ds =>
    cases ho
    obtain ⟨p, vs, rfl, h1, h2⟩ := hx.lst_inv e
    refine ⟨p, vs, rfl, .inl (SqL.of h1), ?_⟩
    rw [h2.length]
    exact q _ Hs H (.refl e) (fun _ w => w) (.int _)
  | tuple ds =>
    cases ho
    obtain ⟨p, vs, rfl, h1, h2⟩ := hx.tup_inv
    refine ⟨p, vs, rfl, .inr (seqT_same e h1), ?_⟩
    rw [h2.length]
    exact q _ Hs H (.refl e) (fun _ w => w) (.int _)
  | _ => cases ho
def dAbs : D → Option D
  | .int i => some (.int (if i < 0 then -i else i))
  | _ => none
theorem c_abs : CallS K rc (fun xs H Q => ∃ i, xs = [.int i] ∧ Q (.int (if i < 0 then -i else i)) H) dAbs := fun Hs H x a d e hx ho Q q => by
  cases a <;> cases ho
  exact ⟨_, by rw [hx.int_inv], q _ Hs H (.refl e) (fun _ w => w) (.int _)⟩
def dInt : D → Option D
  | .int i => some (.int i)
  | _ => none
theorem c_int : CallS K rc (fun xs H Q => (∃ i, xs = [.int i] ∧ Q (.int i) H) ∨ ∃ k, xs = [.bl k] ∧ Q (.int (if k then 1 else 0)) H) dInt := fun Hs H x a d e hx ho Q q => by
  cases a <;> cases ho
  exact .inl ⟨_, by rw [hx.int_inv], q _ Hs H (.refl e) (fun _ w => w) (.int _)⟩
def dMax2 : D → D → Option D
  | .int i, .int j => some (.int (if j > i then j else i))
  | _, _ => none
def dMin2 : D → D → Option D
  | .int i, .int j => some (.int (if j < i then j else i))
  | _, _ => none
theorem c_max2 : Call2S K rc (fun xs H Q => ∃ i j, xs = [.int i, .int j] ∧ Q (.int (if j > i then j else i)) H) dMax2 := fun Hs H x y a b d e hx hy ho Q q => by
  cases a <;> cases b <;> cases ho
  exact ⟨_, _, by rw [hx.int_inv, hy.int_inv], q _ Hs H (.refl e) (fun _ w => w) (.int _)⟩
theorem c_min2 : Call2S K rc (fun xs H Q => ∃ i j, xs = [.int i, .int j] ∧ Q (.int (if j < i then j else i)) H) dMin2 := fun Hs H x y a b d e hx hy ho Q q => by
  cases a <;> cases b <;> cases ho
  exact ⟨_, _, by rw [hx.int_inv, hy.int_inv], q _ Hs H (.refl e) (fun _ w => w) (.int _)⟩
def toInts : List D → Option (List Int)
  | [] => some []
  | .int i :: r => (match toInts r with
    | some l => some (i :: l)
    | none => none)
  | _ => none
theorem toInts_eq : ∀ {ds : List D} {ns : List Int}, toInts ds = some ns → ds = ns.map .int
  | [], ns, h => by cases h; rfl
  | .int i :: r, ns, h => by
    simp only [toInts] at h
    cases e : toInts r with
    | none => rw [e] at h; cases h
    | some l =>
      rw [e] at h
      cases h
      rw [toInts_eq e]
      rfl
  | .none :: _, _, h => by cases h
  | .bool _ :: _, _, h => by cases h
  | .str _ :: _, _, h => by cases h
  | .list _ :: _, _, h => by cases h
  | .tuple _ :: _, _, h => by cases h
  | .dict _ :: _, _, h => by cases h
def toBls : List D → Option (List Bool)
  | [] => some []
  | .bool i :: r => (match toBls r with
    | some l => some (i :: l)
    | none => none)
  | _ => none
theorem toBls_eq : ∀ {ds : List D} {ns : List Bool}, toBls ds = some ns → ds = ns.map .bool
  | [], ns, h => by cases h; rfl
  | .bool i :: r, ns, h => by
    simp only [toBls] at h
    cases e : toBls r with
    | none => rw [e] at h; cases h
    | some l =>
      rw [e] at h
      cases h
      rw [toBls_eq e]
      rfl
  | .none :: _, _, h => by cases h
  | .int _ :: _, _, h => by cases h
  | .str _ :: _, _, h => by cases h
  | .list _ :: _, _, h => by cases h
  | .tuple _ :: _, _, h => by cases h
  | .dict _ :: _, _, h => by cases h
def dSum : D → Option D
  | .list ds => (match toInts ds with
    | some ns => some (.int ns.sum)
    | none => none)
  | _ => none
theorem c_sum : CallS K rc (rSum K) dSum := fun Hs H x a d e hx ho Q q => by
  cases a with
  | list ds =>
    simp only [dSum] at ho
    cases e1 : toInts ds with
    | none => rw [e1] at ho; cases ho
    | some ns =>
      rw [e1] at ho
      cases ho
      obtain ⟨p, vs, rfl, h1, h2⟩ := hx.lst_inv e
      rw [toInts_eq e1] at h2
      rw [h2.ints] at h1
      exact ⟨p, ns, rfl, SqL.of h1, q _ Hs H (.refl e) (fun _ w => w) (.int _)⟩
  | _ => cases ho
def dAll : D → Option D
  | .list ds => (match toBls ds with
    | some ns => some (.bool (ns.all id))
    | none => none)
  | _ => none
def dAny : D → Option D
  | .list ds => (match toBls ds with
    | some ns => some (.bool (ns.any id))
    | none => none)
  | _ => none
theorem c_all : CallS K rc (rAll K) dAll := fun Hs H x a d e hx ho Q q => by
  cases a with
  | list ds =>
    simp only [dAll] at ho
    cases e1 : toBls ds with
    | none => rw [e1] at ho; cases ho
    | some ns =>
      rw [e1] at ho
      cases ho
      obtain ⟨p, vs, rfl, h1, h2⟩ := hx.lst_inv e
      rw [toBls_eq e1] at h2
      rw [h2.bls] at h1
      exact ⟨p, ns, rfl, SqL.of h1, q _ Hs H (.refl e) (fun _ w => w) (.bl _)⟩
  | _ => cases ho
theorem c_any : CallS K rc (rAny K) dAny := fun Hs H x a d e hx ho Q q => by
  cases a with
  | list ds =>
    simp only [dAny] at ho
    cases e1 : toBls ds with
    | none => rw [e1] at ho; cases ho
    | some ns =>
      rw [e1] at ho
      cases ho
      obtain ⟨p, vs, rfl, h1, h2⟩ := hx.lst_inv e
      rw [toBls_eq e1] at h2
      rw [h2.bls] at h1
      exact ⟨p, ns, rfl, SqL.of h1, q _ Hs H (.refl e) (fun _ w => w) (.bl _)⟩
  | _ => cases ho
/-- tuple(x) -/
def dTupOf : D → Option D
  | .list ds => some (.tuple ds)
  | .tuple ds => some (.tuple ds)
  | _ => none
theorem c_tuple : CallS K rc (fun xs H Q => ∃ p ys, xs = [.ref p] ∧ ((SqL K H p ys ∧ ∀ l, H l = none → Q (.ref l) (upd H l (.tup ys))) ∨ (SqT K H p ys ∧ Q (.ref p) H))) dTupOf := fun Hs H x a d e hx ho Q q => by
  cases a with
  | list ds =>
    cases ho
    obtain ⟨p, vs, rfl, h1, h2⟩ := hx.lst_inv e
    refine ⟨p, vs, rfl, .inl ⟨SqL.of h1, fun l hl => ?_⟩⟩
    have hs := same_none e hl
    exact q _ _ _ (.new e hl) (fun w => row_new hl) (.tup (.inl (.inl upd_same)) (h2.new hs))
  | tuple ds =>
    cases ho
    obtain ⟨p, vs, rfl, h1, h2⟩ := hx.tup_inv
    exact ⟨p, vs, rfl, .inr ⟨seqT_same e h1, q _ Hs H (.refl e) (fun _ w => w) (.tup h1 h2)⟩⟩
  | _ => cases ho
end
/-- list(x): a new list -/
theorem df_listOf (ha : DB X rc m a te f) (hm : X.mg "list" = none) (hg : Gl X "list" := by rfl) (he : starEach (a :: []) X.env = (false, eval a X.env) :: starEach [] X.env := by rfl) (hpl : (backTo pos (starEach [] X.env)).any (·.1) = false := by rfl) :
    DF X rc (.Call (.Name "list" p) [a] [] pos) (tCB (fun xs H Q => ∃ p ys, xs = [.ref p] ∧ (SqL X.K H p ys ∨ SqT X.K H p ys) ∧ ∀ l, H l = none → Q (.ref l) (upd H l (.lst ys))) (tCons te tNil)) (mBind f fun d => mO (dItems d)) :=
  df_of (L2.pe_callTy call_list_of hg hm PyProof.Rows.boot_list (pa_cons ha.pe pa_nil he) (by decide) (by decide) he hpl) fun Hs0 H0 σ Hs H ρ R d w hf Q q => by
    obtain ⟨a, r1, h1, h2⟩ := mBind_some hf
    obtain ⟨h3, rfl⟩ := mO_some h2
    refine ha.se Hs0 H0 σ Hs H ρ R a _ h1 _ fun v Hs1 H1 ex1 w1 p1 => ?_
    have fin : ∀ vs, RpAll X.K Hs1 vs d → ∀ l, H1 l = none → Q (.ref l) (upd H1 l (.lst vs)) := fun vs hr l hl => by
      have hn : H l = none := by
        cases z : H l with
        | none => rfl
        | some u => exact absurd hl (ex1.d l (by rw [z]; simp))
      exact q _ Hs1 _ (ex1.trans (.newP ex1.s hl)) (row_new hl w1) ⟨l, vs, rfl, hn, upd_same, same_none ex1.s hl, hr⟩
    cases a with
    | list ds =>
      cases h3
      obtain ⟨p, vs, rfl, h4, h5⟩ := p1.b.lst_inv ex1.s
      exact ⟨p, vs, rfl, .inl (SqL.of h4), fin vs h5⟩
    | tuple ds =>
      cases h3
      obtain ⟨p, vs, rfl, h4, h5⟩ := p1.b.tup_inv
      exact ⟨p, vs, rfl, .inr (seqT_same ex1.s h4), fin vs h5⟩
    | _ => cases h3
/-- isinstance -/
def tyN : D → String
  | .none => "NoneType"
  | .bool _ => "bool"
  | .int _ => "int"
  | .str _ => "str"
  | .list _ => "list"
  | .tuple _ => "tuple"
  | .dict _ => "dict"
theorem Rp.ty {K : PySem.W.Frag} {H : Hp} {v : V} {d : D} (h : Rp K H v d) : TyX K H v (.type (tyN d)) := by
  cases h with
  | non => exact .base .non
  | bl b => exact .base (.bl b)
  | int i => exact .base (.int i)
  | str x => exact .base (.str x)
  | lst h r => exact .base (.lst h)
  | tup h r =>
    rcases h with (h | ⟨o, h⟩) | ⟨o, its, n, h, hc, _⟩
    · exact .base (.tup h)
    · exact .fTuple h
    · exact .kTuple h hc
def dIsi (T : String) (d : D) : Option D := match kitB (tyN d) T with
  | some b => some (.bool b)
  | none => none
theorem de_isi {T : String} {y : Str} {pt : Pos} (ha : DB X rc m a te f) (hm : X.mg "isinstance" = none) (hmT : X.mg y = none) (hvT : bootBuiltins y = some (.type T)) (hg : Gl X "isinstance" := by rfl) (hgT : Gl X y := by rfl) (hnT : y ≠ "__name__" := by decide) (hdT : (y == ("__debug__" : Str)) = false := by decide)
    (he : starEach [a, .Name y pt] X.env = (false, eval a X.env) :: starEach [.Name y pt] X.env := by rfl) (he2 : starEach [.Name y pt] X.env = (false, eval (.Name y pt) X.env) :: starEach [] X.env := by rfl) (hpl : (backTo pos (starEach [.Name y pt] X.env)).any (·.1) = false := by rfl) :
    DE X rc (.Call (.Name "isinstance" p) [a, .Name y pt] [] pos) (tCB (rIsi X.K) (tCons te (tCons (tC (.ty T)) tNil))) (mUn (dIsi T) f) :=
  ⟨L2.pe_callB call_isi hg hm PyProof.Rows.boot_isinstance (pa_cons ha.pe (pa_cons (pe_bltn (v := .ty T) hgT hmT hvT rfl hnT hdT) pa_nil he2) he) (by decide) (by decide) he hpl, fun Hs0 H0 σ Hs H ρ R d w hf Q q => by
    obtain ⟨a, r1, h1, h2⟩ := mBind_some hf
    obtain ⟨h3, rfl⟩ := mO_some h2
    refine ha.se Hs0 H0 σ Hs H ρ R a _ h1 _ fun v Hs1 H1 ex1 w1 p1 => ?_
    unfold dIsi at h3
    cases e : kitB (tyN a) T with
    | none => rw [e] at h3; cases h3
    | some b =>
      rw [e] at h3
      cases h3
      exact ⟨v, .ty T, _, _, b, rfl, .ty T, (p1.b.rp ex1.s).ty, kit_ty e, q _ Hs1 H1 ex1 w1 (.bl b)⟩⟩
/-! ### calls of one's own defs -/
/-- a def that keeps to data: its total meaning -/
def spP (K : PySem.W.Frag) (F : List D → Option D) : Sp := fun vs H Q _ => ∃ Hs ds d, Same Hs H ∧ RpAll K Hs vs ds ∧ F ds = some d ∧ ∀ v Hs' H', Ext none Hs H Hs' H' → Rp K Hs' v d → Q v H'
def ArgOk (K : PySem.W.Frag) (rc : Rc) (Hs H : Hp) (v : V) : Sl → Prop
  | .s d => Rp K Hs v d
  | .b d => (∀ p, v = .ref p → rc.ad ≠ some p) ∧ Bp K Hs H v d
  | .row => ∃ a, rc.ad = some a ∧ v = .ref a
  | _ => False
inductive ArgsOk (K : PySem.W.Frag) (rc : Rc) (Hs H : Hp) : List V → List Sl → Prop
  | nil : ArgsOk K rc Hs H [] []
  | cons {v : V} {vs : List V} {s : Sl} {ss : List Sl} : ArgOk K rc Hs H v s → ArgsOk K rc Hs H vs ss → ArgsOk K rc Hs H (v :: vs) (s :: ss)
/-- a def that may turn the row -/
def spG (K : PySem.W.Frag) (F : List Sl → Row → Option (D × Row)) : Sp := fun vs H Q _ => ∃ rc Hs as w d w', Same Hs H ∧ RowAt K rc H w ∧ (∀ a, Rc.ad rc = some a → H a ≠ none ∧ Hs a = none) ∧ ArgsOk K rc Hs H vs as ∧ F as w = some (d, w') ∧ ∀ v Hs' H', Ext rc Hs H Hs' H' → RowAt K rc H' w' → Rp K Hs' v d → Q v H'
structure Has (P : Program) (w : World) (K : PySem.W.Frag) (mg : Str → Option Value) (base : Heap) (x : Str) (k : Nat) (dvs : List V) (sp : Sp) : Prop where
  ex : ∃ f fd ps ds, FnOk P w K mg base CX0 k f fd ps sp ∧ mg x = some (.ref f) ∧ PySem.W.keepIn K (.ref f) = true ∧ Binds K fd ps ds ∧ Vals dvs ds
theorem de_callP {k : Nat} {F : List D → Option D} {dvs : List V} {dds : List D} (h : Has X.prog X.w X.K X.mg X.base x k dvs (spP X.K F)) (hr : Room k X.A) (hd : ∀ H, RpAll X.K H dvs dds) (ha : DA X rc (e :: es) t fl) (hg : Gl X x := by rfl) (hdb : (x == ("__debug__" : Str)) = false := by decide)
    (he : starEach (e :: es) X.env = (false, eval e X.env) :: starEach es X.env := by rfl) (hpl : (backTo pos (starEach es X.env)).any (·.1) = false := by rfl) :
    DE X rc (.Call (.Name x p) (e :: es) [] pos) (tCall (spP X.K F) dvs E0 t) (mBind fl fun ds => mO (F (ds ++ dds))) := by
  obtain ⟨f, fd, ps, ds, hF, hm, hk, hb, hv⟩ := h.ex
  refine ⟨pe_call hF hr hg hm hk hb hv pass0 ha.pe hdb he hpl, fun Hs0 H0 σ Hs H ρ R d w hf Q q => ?_⟩
  obtain ⟨l, r1, h1, h2⟩ := mBind_some hf
  obtain ⟨h3, rfl⟩ := mO_some h2
  refine ha.se Hs0 H0 σ Hs H ρ R l _ h1 _ fun vs Hs1 H1 ex1 w1 p1 => ?_
  exact ⟨Hs1, l ++ dds, d, ex1.s, p1.append (hd Hs1), h3, fun v Hs' H' ex2 p2 => q v Hs' H' (ex1.trans ex2.of_none) (w1.keep ex2.same_none) p2⟩
structure DR (X : Cx) (rc : Rc) (es : List Expr) (t : TA) (f : MM (List Sl)) : Prop where
  pe : PA X es t
  se : Sem X.K rc (fun _ Hs H v d => ArgsOk X.K rc Hs H v d) t f
theorem ArgOk.ext {K : PySem.W.Frag} {Hs H Hs' H' : Hp} {v : V} {s : Sl} (h : ArgOk K rc Hs H v s) (ex : Ext rc Hs H Hs' H') : ArgOk K rc Hs' H' v s := by
  cases s with
  | s d => exact Rp.mono ex.g (show Rp K Hs v d from h)
  | b d => exact ⟨h.1, (h.2.monoS ex.g).now h.1 ex.k⟩
  | row => exact h
  | _ => exact h.elim
theorem dr_nil : DR X rc [] tNil (mRet []) := ⟨pa_nil, fun Hs0 H0 σ Hs H ρ R d r hf Q q => by
  cases hf
  exact q [] Hs H (.refl R.same) R.row .nil⟩
def mConsS (s : MM D) (fl : MM (List Sl)) : MM (List Sl) := mBind s fun a => mBind fl fun l => mRet (.s a :: l)
theorem dr_cons {fl : MM (List Sl)} (ha : DE X rc e te f) (hl : DR X rc es t fl) (hs : starEach (e :: es) X.env = (false, eval e X.env) :: starEach es X.env := by rfl) : DR X rc (e :: es) (tCons te t) (mConsS f fl) := ⟨pa_cons ha.pe hl.pe hs, fun Hs0 H0 σ Hs H ρ R d w hf Q q => by
  obtain ⟨a, r1, h1, h2⟩ := mBind_some hf
  obtain ⟨l, r2, h3, h4⟩ := mBind_some h2
  cases h4
  refine ha.se Hs0 H0 σ Hs H ρ R a r1 h1 _ fun v Hs1 H1 ex1 w1 p1 => ?_
  refine hl.se Hs0 H0 σ Hs1 H1 _ (R.ext' ex1 w1) l _ h3 _ fun vs Hs2 H2 ex2 w2 p2 => ?_
  exact q _ Hs2 H2 (ex1.trans ex2) w2 (.cons (Rp.mono ex2.g p1) p2)⟩
def mConsRow (i : Nat) (fl : MM (List Sl)) : MM (List Sl) := fun ρ => match ρ.get i with
  | .row => mBind fl (fun l => mRet (.row :: l)) ρ
  | _ => none
theorem dr_row {fl : MM (List Sl)} (hl : DR X rc es t fl) (hN : X.N[i]? = some x := by rfl) (hv : Vis X.env.scope x := by first | exact Or.inl rfl | exact Or.inr (Or.inl rfl) | exact Or.inr (Or.inr rfl)) (hd : (x == ("__debug__" : Str)) = false := by decide)
    (hcd : (x == ("__classdict__" : Str)) = false := by decide) (hs : starEach (.Name x p :: es) X.env = (false, eval (.Name x p) X.env) :: starEach es X.env := by rfl) : DR X rc (.Name x p :: es) (tCons (tVar i) t) (mConsRow i fl) := ⟨pa_cons (pe_var hN hv hd hcd) hl.pe hs, fun Hs0 H0 σ Hs H ρ R d w hf Q q => by
  unfold mConsRow at hf
  have hsl := R.sl i
  cases hx : ρ.get i with
  | row =>
    rw [hx] at hf hsl
    obtain ⟨l, r2, h3, h4⟩ := mBind_some hf
    cases h4
    obtain ⟨a, h1, h2⟩ := hsl
    refine ⟨_, h2, hl.se Hs0 H0 σ Hs H ρ R l _ h3 _ fun vs Hs2 H2 ex2 w2 p2 => ?_⟩
    exact q _ Hs2 H2 ex2 w2 (.cons ⟨a, h1, rfl⟩ p2)
  | _ => rw [hx] at hf; cases hf⟩
def mConsBor (i : Nat) (fl : MM (List Sl)) : MM (List Sl) := fun ρ => match ρ.get i with
  | .o ds => mBind fl (fun l => mRet (.b (.list ds) :: l)) ρ
  | .b d => mBind fl (fun l => mRet (.b d :: l)) ρ
  | _ => none
theorem dr_bor {fl : MM (List Sl)} (hl : DR X rc es t fl) (hN : X.N[i]? = some x := by rfl) (hv : Vis X.env.scope x := by first | exact Or.inl rfl | exact Or.inr (Or.inl rfl) | exact Or.inr (Or.inr rfl)) (hd : (x == ("__debug__" : Str)) = false := by decide)
    (hcd : (x == ("__classdict__" : Str)) = false := by decide) (hs : starEach (.Name x p :: es) X.env = (false, eval (.Name x p) X.env) :: starEach es X.env := by rfl) : DR X rc (.Name x p :: es) (tCons (tVar i) t) (mConsBor i fl) := ⟨pa_cons (pe_var hN hv hd hcd) hl.pe hs, fun Hs0 H0 σ Hs H ρ R d w hf Q q => by
  unfold mConsBor at hf
  have hsl := R.sl i
  cases hx : ρ.get i with
  | o ds =>
    rw [hx] at hf hsl
    obtain ⟨l, r2, h3, h4⟩ := mBind_some hf
    cases h4
    obtain ⟨pp, vs, h1, h2, h5, h6, h7, h8⟩ := hsl
    refine ⟨_, h1, hl.se Hs0 H0 σ Hs H ρ R l _ h3 _ fun ws Hs2 H2 ex2 w2 p2 => ?_⟩
    exact q _ Hs2 H2 ex2 w2 (.cons ⟨fun z hz => by cases hz; exact h7, .lst (ex2.k _ _ h7 h2) (h8.mono ex2.g)⟩ p2)
  | b db =>
    rw [hx] at hf hsl
    obtain ⟨l, r2, h3, h4⟩ := mBind_some hf
    cases h4
    obtain ⟨v, h1, h2, h5⟩ := hsl
    refine ⟨_, h1, hl.se Hs0 H0 σ Hs H ρ R l _ h3 _ fun ws Hs2 H2 ex2 w2 p2 => ?_⟩
    have R2 := R.ext' ex2 w2
    exact q _ Hs2 H2 ex2 w2 (.cons ⟨h2, (h5.monoS ex2.g).now h2 R2.ext.k⟩ p2)
  | _ => rw [hx] at hf; cases hf⟩
def mCallG (F : List Sl → Row → Option (D × Row)) (fl : MM (List Sl)) : MM D := mBind fl fun l => fun ρ => F l ρ.row
theorem de_callG {k : Nat} {F : List Sl → Row → Option (D × Row)} {fl : MM (List Sl)} (h : Has X.prog X.w X.K X.mg X.base x k [] (spG X.K F)) (hr : Room k X.A) (ha : DR X rc (e :: es) t fl) (hg : Gl X x := by rfl) (hdb : (x == ("__debug__" : Str)) = false := by decide)
    (he : starEach (e :: es) X.env = (false, eval e X.env) :: starEach es X.env := by rfl) (hpl : (backTo pos (starEach es X.env)).any (·.1) = false := by rfl) :
    DE X rc (.Call (.Name x p) (e :: es) [] pos) (tCall (spG X.K F) [] E0 t) (mCallG F fl) := by
  obtain ⟨f, fd, ps, ds, hF, hm, hk, hb, hv⟩ := h.ex
  refine ⟨pe_call hF hr hg hm hk hb hv pass0 ha.pe hdb he hpl, fun Hs0 H0 σ Hs H ρ R d w hf Q q => ?_⟩
  obtain ⟨l, r1, h1, h2⟩ := mBind_some hf
  refine ha.se Hs0 H0 σ Hs H ρ R l _ h1 _ fun vs Hs1 H1 ex1 w1 p1 => ?_
  have R1 := R.ext' ex1 w1
  refine ⟨rc, Hs1, l, r1, d, w, ex1.s, w1, fun a ha' => ⟨R1.ext.d a (R1.rn a ha').1, R1.ext.p a (R1.rn a ha').1 (R1.rn a ha').2⟩, by rw [List.append_nil]; exact p1, h2, fun v Hs' H' ex2 w2 p2 => q v Hs' H' (ex1.trans ex2) w2 p2⟩
/-! ### defs -/
def runDef (g : MS) (n N : Nat) (as : List Sl) (w : Row) : Option (D × Row) := if as.length = n then (match g ⟨w, as ++ List.replicate (N - n) .no⟩ with
  | some (.ret d w') => some (d, w')
  | some (.nx ρ) => some (.none, ρ.row)
  | _ => none) else none
def runP (g : MS) (n N : Nat) (ds : List D) : Option D := (runDef g n N (ds.map .s) ([], 0, 0, 0)).map (·.1)
end
section
variable {P : Program} {w : World} {K : PySem.W.Frag} {mg : Str → Option Value} {base : Heap} {qual x : Str} {params : Arguments} {body : List Stmt} {scope : Scope} {dvs : List V} {kws : List (Str × V)} {f : Addr} {fd : FuncData} {N ps : List Str} {k : Nat} {g : MS}
theorem ArgsOk.length {rc : Rc} {Hs H : Hp} : ∀ {vs : List V} {as : List Sl}, ArgsOk K rc Hs H vs as → vs.length = as.length
  | _, _, .nil => rfl
  | _, _, .cons _ r => congrArg (· + 1) r.length
theorem ArgsOk.get {rc : Rc} {Hs H : Hp} : ∀ {vs : List V} {as : List Sl} {i : Nat} {s : Sl}, ArgsOk K rc Hs H vs as → as[i]? = some s → ∃ v, vs[i]? = some v ∧ ArgOk K rc Hs H v s
  | _, _, _, _, .nil, e => by simp at e
  | _, _, 0, _, .cons r _, e => by simp at e; subst e; exact ⟨_, rfl, r⟩
  | _, _, i + 1, s, .cons _ t, e => by
    obtain ⟨u, h1, h2⟩ := ArgsOk.get (i := i) (s := s) t (by simpa using e)
    exact ⟨u, by simpa using h1, h2⟩
theorem rel_start {rc : Rc} {Hs H : Hp} {vs : List V} {as : List Sl} {w : Row} {n : Nat} (s : Same Hs H) (hw : RowAt K rc H w) (hr : ∀ a, Rc.ad rc = some a → H a ≠ none ∧ Hs a = none) (ha : ArgsOk K rc Hs H vs as) (hn : as.length = n) :
    Rel K rc Hs H (start N vs) Hs H ⟨w, as ++ List.replicate (N.length - n) .no⟩ := by
  have hl := ha.length
  have get : ∀ i, (⟨w, as ++ List.replicate (N.length - n) .no⟩ : Ev).get i = (as[i]?).getD .no := fun i => by
    unfold Ev.get
    rw [List.getD_eq_getElem?_getD]
    by_cases hi : i < as.length
    · rw [List.getElem?_append_left hi]
    · rw [List.getElem?_append_right (by omega), List.getElem?_replicate, List.getElem?_eq_none (by omega)]
      split <;> rfl
  have sg : ∀ i v, vs[i]? = some v → (start N vs)[i]? = some (some v) := fun i v e => by
    unfold L2.start
    have hi := (List.getElem?_eq_some_iff.mp e).1
    rw [List.getElem?_append_left (by rw [List.length_map]; exact hi), List.getElem?_map, e]
    rfl
  refine ⟨.refl s, s, hw, hr, fun a sc ns e => ?_, by simp [L2.start, hl, hn], fun i => ?_, fun i j p hij hi hj => ?_⟩
  · subst e; exact hw.2
  · rw [get]
    cases e : as[i]? with
    | none => trivial
    | some x =>
      obtain ⟨v, h1, h2⟩ := ha.get e
      have h3 := sg i v h1
      cases x with
      | no => trivial
      | s d => exact ⟨v, h3, h2⟩
      | o ds => exact h2.elim
      | b d => exact ⟨v, h3, h2.1, h2.2⟩
      | row =>
        obtain ⟨a, h4, rfl⟩ := h2
        exact ⟨a, h4, h3⟩
  · rw [get] at hi
    cases e : as[i]? with
    | none => rw [e] at hi; exact hi.elim
    | some x =>
      rw [e] at hi
      cases x with
      | o ds =>
        obtain ⟨v, h1, h2⟩ := ha.get e
        exact h2.elim
      | _ => exact hi.elim
theorem def_okG (F : FunD K x qual params body scope dvs kws f fd) (S : FnScope N ps scope)
    (hb : ∀ (cdv : Value) (A : Around) (outer : List Env) (s : Shared) (H : Hp) (E : XK), Room k (A.deeper (envOfC qual scope s.heap.objs.size f cdv)) → ∀ rc, ∃ t, DSs (cxOf CX0 P w K mg base N qual scope f cdv A outer s H E).nox rc body t g) :
    FnOk P w K mg base CX0 (k + 1) f fd ps (spG K (runDef g ps.length N.length)) := by
  refine F.ok S (fun vs H Q E h => ?_) (fun cdv A outer s H vs Q E hr h => ?_)
  · obtain ⟨rc, Hs, as, w, d, w', h1, h2, h3, h4, h5, h6⟩ := h
    unfold runDef at h5
    by_cases hl : as.length = ps.length
    · rw [h4.length]; exact hl
    · rw [if_neg hl] at h5; cases h5
  · obtain ⟨rc, Hs, as, w0, d, w', h1, h2, h3, h4, h5, h6⟩ := h
    obtain ⟨t, ht⟩ := hb cdv A outer s H E hr rc
    refine ⟨t, PSs.nox ht.ps, ?_⟩
    unfold runDef at h5
    by_cases hl : as.length = ps.length
    · rw [if_pos hl] at h5
      have R : Rel K rc Hs H (start N vs) Hs H ⟨w0, as ++ List.replicate (N.length - ps.length) .no⟩ := rel_start h1 h2 h3 h4 hl
      cases e : g ⟨w0, as ++ List.replicate (N.length - ps.length) .no⟩ with
      | none => rw [e] at h5; cases h5
      | some o =>
        rw [e] at h5
        cases o with
        | ret d' w2 =>
          cases h5
          exact ht.se Hs H _ Hs H _ R _ e _ fun v Hs' H' ex w' p => h6 v Hs' H' ex w' p
        | nx ρ' =>
          cases h5
          exact ht.se Hs H _ Hs H _ R _ e _ fun σ' Hs' H' _ R' => h6 _ Hs' H' R'.ext R'.row .non
        | bk _ => cases h5
        | ct _ => cases h5
    · rw [if_neg hl] at h5; cases h5
theorem argsS {Hs H : Hp} {rc : Rc} : ∀ {vs : List V} {ds : List D}, RpAll K Hs vs ds → ArgsOk K rc Hs H vs (ds.map .s)
  | _, _, .nil => .nil
  | _, _, .cons h r => .cons h (argsS r)
theorem okP_of {n M : Nat} (h : FnOk P w K mg base CX0 k f fd ps (spG K (runDef g n M))) : FnOk P w K mg base CX0 k f fd ps (spP K (runP g n M)) := h.imp fun vs H Q E h => by
  obtain ⟨Hs, ds, d, h1, h2, h3, h4⟩ := h
  unfold runP at h3
  cases e : runDef g n M (ds.map .s) ([], 0, 0, 0) with
  | none => rw [e] at h3; cases h3
  | some pr =>
    obtain ⟨d', w'⟩ := pr
    rw [e] at h3
    cases h3
    exact ⟨none, Hs, ds.map .s, ([], 0, 0, 0), _, w', h1, trivial, fun a z => by (cases z), argsS h2, e, fun v Hs' H' ex _ p => h4 v Hs' H' ex p⟩
end
end DL

namespace DL
open PySem PySem.Spec PyProof.Rows L2
theorem pylong_of {X : Cx} {k : Nat} {env : Env} {l : List Env} (hS : X.base.NoSeer) (ht : X.prog.given.tree = none) (hst : X.stack = env :: l) (hg : env.scope.isGenerator = false) (hco : env.scope.isCoroutine = false) (hb : env.builtins = builtinsNs) (hgl : env.globals = mainGlobals)
    (hr : Room k X.A) (hk : 32 ≤ k) : PylongAt X := fun pins σ H s I =>
  PylongRoom.of (M := model X.prog X.w) I.nolimit (by have := hr.dp; have e : Builtin.pylongFrames = 100 := rfl; rw [e]; omega)
    (SeerAt.of (M := model X.prog X.w) (hS.keeps I.bk) ht (by rw [I.ok.frames, hst]) hg hco hb hgl)
section
variable {X : Cx} {rc : Rc} {m m' : Bool} {a b : Expr} {pos : Pos} {te te2 : TE} {f f2 : MM D} {i : Nat} {x : Str} {K : PySem.W.Frag}
def gRetN : MS := fun ρ => some (.ret .none ρ.row)
theorem ds_retN : DS X rc (.Return none pos) tRetN gRetN := ⟨ps_retN, fun Hs0 H0 σ Hs H ρ R oc hf E P => by
  cases hf
  exact P _ Hs H R.ext R.row .non⟩
def dIsB : D → D → Option D
  | .bool a, .bool b => some (.bool (decide (a = b)))
  | _, _ => none
def dNotB : D → D → Option D
  | .bool a, .bool b => some (.bool (!decide (a = b)))
  | _, _ => none
theorem s_isBl : OpS K rc rIsB dIsB := fun Hs H x y a b d e hx hy ho Q q => by
  cases a <;> cases b <;> cases ho
  exact ⟨_, _, hx.bl_inv, hy.bl_inv, q _ Hs H (.refl e) (fun _ w => w) (.bl _)⟩
theorem s_notBl : OpS K rc rNotB dNotB := fun Hs H x y a b d e hx hy ho Q q => by
  cases a <;> cases b <;> cases ho
  exact ⟨_, _, hx.bl_inv, hy.bl_inv, q _ Hs H (.refl e) (fun _ w => w) (.bl _)⟩
/-- isinstance(x, (tuple, list)) -/
def dIsiTL : D → Option D
  | .list _ => some (.bool true)
  | .tuple _ => some (.bool true)
  | .none => some (.bool false)
  | .bool _ => some (.bool false)
  | .int _ => some (.bool false)
  | .str _ => some (.bool false)
  | .dict _ => none
theorem kit_tl {d : D} {b : Bool} (h : dIsiTL d = some (.bool b)) : PySem.W.kitAny K (.type (tyN d)) [.type "tuple", .type "list"] = some b := by
  cases d with
  | dict _ => cases h
  | list _ =>
    cases h
    exact kitAny_cons (kit_ty (a := "list") (b := "tuple") (r := false) (by decide +kernel)) (fun _ => kitAny_cons (kit_ty (a := "list") (b := "list") (r := true) (by decide +kernel)) (fun z => by cases z) fun _ => rfl) (fun z => by cases z)
  | tuple _ =>
    cases h
    exact kitAny_cons (kit_ty (a := "tuple") (b := "tuple") (r := true) (by decide +kernel)) (fun z => by cases z) fun _ => rfl
  | none =>
    cases h
    exact kitAny_cons (kit_ty (a := "NoneType") (b := "tuple") (r := false) (by decide +kernel)) (fun _ => kitAny_cons (kit_ty (a := "NoneType") (b := "list") (r := false) (by decide +kernel)) (fun _ => kitAny_nil) fun z => by cases z) (fun z => by cases z)
  | bool _ =>
    cases h
    exact kitAny_cons (kit_ty (a := "bool") (b := "tuple") (r := false) (by decide +kernel)) (fun _ => kitAny_cons (kit_ty (a := "bool") (b := "list") (r := false) (by decide +kernel)) (fun _ => kitAny_nil) fun z => by cases z) (fun z => by cases z)
  | int _ =>
    cases h
    exact kitAny_cons (kit_ty (a := "int") (b := "tuple") (r := false) (by decide +kernel)) (fun _ => kitAny_cons (kit_ty (a := "int") (b := "list") (r := false) (by decide +kernel)) (fun _ => kitAny_nil) fun z => by cases z) (fun z => by cases z)
  | str _ =>
    cases h
    exact kitAny_cons (kit_ty (a := "str") (b := "tuple") (r := false) (by decide +kernel)) (fun _ => kitAny_cons (kit_ty (a := "str") (b := "list") (r := false) (by decide +kernel)) (fun _ => kitAny_nil) fun z => by cases z) (fun z => by cases z)
theorem dIsiTL_bool {d r : D} (h : dIsiTL d = some r) : ∃ b, r = .bool b := by
  cases d <;> cases h <;> exact ⟨_, rfl⟩
theorem de_isiTL {p pt p1 p2 : Pos} {kt : Nat} (ha : DB X rc m a te f) (hm : X.mg "isinstance" = none) (hm1 : X.mg "tuple" = none) (hm2 : X.mg "list" = none) (hg : Gl X "isinstance" := by rfl) (hg1 : Gl X "tuple" := by rfl) (hg2 : Gl X "list" := by rfl)
    (he : starEach [a, .Tuple [.Name "tuple" p1, .Name "list" p2] kt pt] X.env = (false, eval a X.env) :: starEach [.Tuple [.Name "tuple" p1, .Name "list" p2] kt pt] X.env := by rfl)
    (he2 : starEach [.Tuple [.Name "tuple" p1, .Name "list" p2] kt pt] X.env = (false, eval (.Tuple [.Name "tuple" p1, .Name "list" p2] kt pt) X.env) :: starEach [] X.env := by rfl)
    (he3 : starEach [.Name "tuple" p1, .Name "list" p2] X.env = (false, eval (.Name "tuple" p1) X.env) :: starEach [.Name "list" p2] X.env := by rfl)
    (he4 : starEach [.Name "list" p2] X.env = (false, eval (.Name "list" p2) X.env) :: starEach [] X.env := by rfl)
    (hpl : (backTo pos (starEach [.Tuple [.Name "tuple" p1, .Name "list" p2] kt pt] X.env)).any (·.1) = false := by rfl) :
    DE X rc (.Call (.Name "isinstance" p) [a, .Tuple [.Name "tuple" p1, .Name "list" p2] kt pt] [] pos) (tCB (rIsiT X.K) (tCons te (tCons (tTup (tCons (tC (.ty "tuple")) (tCons (tC (.ty "list")) tNil))) tNil))) (mUn dIsiTL f) :=
  ⟨L2.pe_callB call_isiT hg hm PyProof.Rows.boot_isinstance (pa_cons ha.pe (pa_cons (pe_tup (pa_cons (pe_bltn (v := .ty "tuple") hg1 hm1 PyProof.Rows.boot_tuple rfl) (pa_cons (pe_bltn (v := .ty "list") hg2 hm2 PyProof.Rows.boot_list rfl) pa_nil he4) he3)) pa_nil he2) he) (by decide) (by decide) he hpl, fun Hs0 H0 σ Hs H ρ R d w hf Q q => by
    obtain ⟨a, r1, h1, h2⟩ := mBind_some hf
    obtain ⟨h3, rfl⟩ := mO_some h2
    refine ha.se Hs0 H0 σ Hs H ρ R a _ h1 _ fun v Hs1 H1 ex1 w1 p1 => ?_
    refine ⟨by show 2 ≤ sizeLine; decide, fun l hl => ?_⟩
    obtain ⟨b, rfl⟩ := dIsiTL_bool h3
    have ex2 : Ext rc Hs1 H1 Hs1 (upd H1 l (.tup [.ty "tuple", .ty "list"])) := .newP ex1.s hl
    refine ⟨v, l, _, .type (tyN a), [.type "tuple", .type "list"], b, rfl, upd_same, .cons (.ty _) (.cons (.ty _) .nil), ?_, kit_tl h3, q _ Hs1 _ (ex1.trans ex2) (row_new hl w1) (.bl b)⟩
    exact ((p1.ext ex2).b.rp ex2.s).ty⟩
/-- insert -/
def gInsert (i : Nat) (fa fb : MM D) : MS := fun ρ => match fa ρ with
  | some (.int k, r1) => (match fb (ρ.wr r1) with
    | some (d, r) => (match (ρ.wr r).get i with
      | .o ds => if 0 ≤ k ∧ k ≤ 1000000 ∧ ds.length < 1000000 then some (.nx ((ρ.wr r).set i (.o (ds.take k.toNat ++ [d] ++ ds.drop k.toNat)))) else none
      | _ => none)
    | none => none)
  | _ => none
abbrev rInsert : V → List V → Hp → VK → Prop := fun x vs H Q => ∃ (l : Addr) (xs : List V) (i : Int) (y : V), x = .ref l ∧ vs = [.int i, y] ∧ H l = some (.lst xs) ∧ xs.length < sizeLine ∧ 0 ≤ i ∧ i < 2 ^ 63 ∧
    Q .non (upd H l (.lst (xs.take i.toNat ++ [y] ++ xs.drop i.toNat)))
theorem ds_insert {apos cpos pos p : Pos} (ha : DE X rc a te f) (hb : DE X rc b te2 f2) (hN : X.N[i]? = some x := by rfl) (hv : Vis X.env.scope x := by first | exact Or.inl rfl | exact Or.inr (Or.inl rfl) | exact Or.inr (Or.inr rfl))
    (hp : PE X (.Call (.Attribute (.Name x p) "insert" apos) [a, b] [] cpos) (tBM X.K "list" rInsert (tVar i) (tCons te (tCons te2 tNil))))
    (hs : swapsWith (.Call (.Attribute (.Name x p) "insert" apos) [a, b] [] cpos) none pos.line X.env = pure false := by rfl) :
    DS X rc (.Expr (.Call (.Attribute (.Name x p) "insert" apos) [a, b] [] cpos) pos) (tDrop (tBM X.K "list" rInsert (tVar i) (tCons te (tCons te2 tNil)))) (gInsert i f f2) := ⟨ps_expr hp hs, fun Hs0 H0 σ Hs H ρ R oc hf E P => by
  unfold gInsert at hf
  cases e1 : f ρ with
  | none => rw [e1] at hf; cases hf
  | some pr =>
    obtain ⟨kd, r1⟩ := pr
    rw [e1] at hf
    cases kd with
    | int k =>
      simp only at hf
      cases e0 : f2 (ρ.wr r1) with
      | none => rw [e0] at hf; cases hf
      | some pr =>
        obtain ⟨d, r⟩ := pr
        rw [e0] at hf
        simp only at hf
        cases e2 : (ρ.wr r).get i with
        | o ds =>
          rw [e2] at hf
          simp only at hf
          by_cases hl : 0 ≤ k ∧ k ≤ 1000000 ∧ ds.length < 1000000
          · rw [if_pos hl] at hf
            cases hf
            have hs := R.sl i
            have e2' : ρ.get i = .o ds := e2
            rw [e2'] at hs
            obtain ⟨pp, vs, h1, h2, h3, h4, h5, h6⟩ := hs
            refine ⟨_, h1, .inl ⟨rfl, _, SqL.of h2⟩, ?_⟩
            refine ha.se Hs0 H0 σ Hs H ρ R _ r1 e1 _ fun y Hs1 H1 ex w1 p1 => ?_
            have R1 := R.ext' ex w1
            refine hb.se Hs0 H0 σ Hs1 H1 _ R1 _ r e0 _ fun y2 Hs2 H2 ex2 w2 p2 => ?_
            have R2 : Rel X.K rc Hs0 H0 σ Hs2 H2 (ρ.wr r) := R1.ext' ex2 w2
            refine ⟨pp, vs, k, y2, rfl, by rw [p1.int_inv], ex2.k _ _ h5 (ex.k _ _ h5 h2), by rw [h6.length]; exact big_lt hl.2.2, hl.1, by omega, ?_⟩
            have g12 := ex.g.trans ex2.g
            exact P σ Hs2 _ g12 (R2.upd e2 h1 ((((h6.mono g12).take _).append (.cons p2 .nil)).append ((h6.mono g12).drop _)))
          · rw [if_neg hl] at hf; cases hf
        | _ => rw [e2] at hf; cases hf
    | _ => cases hf⟩
theorem pe_insert {apos cpos p : Pos} (hx : PE X (.Name x p) (tVar i)) (ha : DE X rc a te f) (hb2 : DE X rc b te2 f2) (hb : attributeBase (.Name x p) "insert" X.env (eval (.Name x p) X.env) = eval (.Name x p) X.env := by rfl)
    (h2 : (((backTo cpos (starEach [a, b] X.env)).all (!·.1) && (backToKw cpos (keywordEach [] X.env)).all (·.1.isSome)) && decide (([a, b].length + ([] : List Keyword).length + if ([] : List Keyword).isEmpty = true then 0 else 1) < 30)) = true := by rfl)
    (h3 : (apos.endLine == cpos.line) = true := by rfl) (h4 : starEach [a, b] X.env = (false, eval a X.env) :: starEach [b] X.env := by rfl) (h6 : starEach [b] X.env = (false, eval b X.env) :: starEach [] X.env := by rfl) (h5 : (backTo cpos (starEach [b] X.env)).any (·.1) = false := by rfl) :
    PE X (.Call (.Attribute (.Name x p) "insert" apos) [a, b] [] cpos) (tBM X.K "list" rInsert (tVar i) (tCons te (tCons te2 tNil))) :=
  pe_bm PySem.F.plainAttrs_list PySem.F.slot_list_insert PySem.F.type_list_insert mt_insert hx (pa_cons ha.pe (pa_cons hb2.pe pa_nil h6) h4) hb h2 h3 h4 h5
end
end DL

namespace DL
open PySem PySem.Spec PyProof.Rows L2
/-! ### the draw: a row [script, place, seed, rest] -/
def takenR (w : DL.Row) (m : Int) : Int × DL.Row :=
  if w.2.2.2 > 0 then (w.2.2.2.fmod m, (w.1, w.2.1, w.2.2.1, w.2.2.2.fdiv m))
  else if w.2.1 + 1 > (w.1.length : Int) then ((((w.2.2.1 * 48271 + 11).fmod 2147483647).fdiv 7).fmod m, (w.1, w.2.1 + 1, (w.2.2.1 * 48271 + 11).fmod 2147483647, w.2.2.2))
  else if w.1.getD w.2.1.toNat 0 ≥ 10 ^ 18 then ((w.1.getD w.2.1.toNat 0).fmod m, (w.1, w.2.1 + 1, (w.2.2.1 * 48271 + w.1.getD w.2.1.toNat 0 + 11).fmod 2147483647, (w.1.getD w.2.1.toNat 0).fdiv m))
  else ((w.1.getD w.2.1.toNat 0).fmod m, (w.1, w.2.1 + 1, (w.2.2.1 * 48271 + w.1.getD w.2.1.toNat 0 + 11).fmod 2147483647, w.2.2.2))
theorem takenR_range (w : DL.Row) {m : Int} (h : 0 < m) : 0 ≤ (takenR w m).1 ∧ (takenR w m).1 < m := by
  unfold takenR
  split
  · exact ⟨Int.fmod_nonneg_of_pos _ h, Int.fmod_lt_of_pos _ h⟩
  · split
    · exact ⟨Int.fmod_nonneg_of_pos _ h, Int.fmod_lt_of_pos _ h⟩
    · split
      · exact ⟨Int.fmod_nonneg_of_pos _ h, Int.fmod_lt_of_pos _ h⟩
      · exact ⟨Int.fmod_nonneg_of_pos _ h, Int.fmod_lt_of_pos _ h⟩
/-- a row that can be drawn from -/
def RowOk (w : DL.Row) : Prop := 0 ≤ w.2.1 ∧ w.1.length ≤ 63 ∧ 0 ≤ w.2.2.1 ∧ w.2.2.1 < 2147483647
theorem takenR_ok {w : DL.Row} {m : Int} (h : RowOk w) : RowOk (takenR w m).2 := by
  obtain ⟨h1, h2, h3, h4⟩ := h
  have z : ∀ x : Int, 0 ≤ x.fmod 2147483647 ∧ x.fmod 2147483647 < 2147483647 := fun x => ⟨Int.fmod_nonneg_of_pos _ (by decide), Int.fmod_lt_of_pos _ (by decide)⟩
  unfold takenR RowOk
  split
  · exact ⟨h1, h2, h3, h4⟩
  · split
    · exact ⟨by show 0 ≤ w.2.1 + 1; omega, h2, z _⟩
    · split
      · exact ⟨by show 0 ≤ w.2.1 + 1; omega, h2, z _⟩
      · exact ⟨by show 0 ≤ w.2.1 + 1; omega, h2, z _⟩
theorem rowOk0 {ns : List Int} (h : ns.length ≤ 63) : RowOk (ns, 0, 5800, 0) := ⟨Int.le_refl 0, h, (by decide : (0:Int) ≤ 5800), (by decide : (5800:Int) < 2147483647)⟩
end DL

namespace DL
open PySem PySem.Spec PyProof.Rows L2
/-! ### the same with the written part by its own name (for blocks within blocks) -/
section
variable {X : Cx} {rc : Rc} {m m' m2 : Bool} {e e2 e3 tg a b c : Expr} {pos p tpos : Pos} {ta tb te te2 te3 : TE} {fa fb f f2 f3 : MM D} {es : List Expr} {t : TA} {fl : MM (List D)} {x : Str} {vs : List Nat}
theorem kda_star (K : PySem.W.Frag) {p : Pos} (ha : DB X rc m e te fa) (hl : DA X rc es t fl) (hs : starEach (.Starred e p :: es) X.env = (true, eval e X.env) :: starEach es X.env := by rfl) (hK : X.K = K := by rfl) : DA X rc (.Starred e p :: es) (StX.tStar K te t) (mStar fa fl) := by
  subst hK; exact da_star ha hl hs
theorem kde_ix (K : PySem.W.Frag) (ha : DB X rc m a ta fa) (hb : DB X rc m' b tb fb) (hs : PlainIx b := by exact fun _ _ => rfl) (hK : X.K = K := by rfl) : DE X rc (.Subscript a b pos) (tOp (rIx K) ta tb) (mOp dIx fa fb) := by
  subst hK; exact de_ix ha hb hs
theorem kde_slice (K : PySem.W.Frag) {lo hi : Option Expr} {tl th : TO} {fl fh : MM (Option Int)} {p2 : Pos} (ha : DB X rc m a ta fa) (hl : DO X rc lo tl fl) (hh : DO X rc hi th fh) (hK : X.K = K := by rfl) : DE X rc (.Subscript a (.Slice lo hi none p2) pos) (tSl (rSlD K) ta tl th) (mSl fa fl fh) := by
  subst hK; exact de_slice ha hl hh
theorem kdg_tup (K : PySem.W.Frag) {es : List Expr} {k : Nat} {u : TGs} {fs : List D → Ev → Option Ev} {n : Nat} (hc : X.calm = true) (h : DGs X rc vs es u fs)
    (hn : (assignEach es X.env).length = n := by rfl) (hst : (assignEach es X.env).findIdx? (·.1) = none := by rfl) (hK : X.K = K := by rfl) : DG X rc vs (.Tuple es k pos) (gTup K n u) (gtTup n fs) := by
  subst hK; exact dg_tup hc h hn hst
theorem kop_eqD (K : PySem.W.Frag) (hu : X.A.units + 64 < cLine) (hK : X.K = K := by rfl) : OpR X (compareOp .Eq) (rEqD K) := by
  subst hK; exact op_eqD hu
theorem kop_neD (K : PySem.W.Frag) (hu : X.A.units + 64 < cLine) (hK : X.K = K := by rfl) : OpR X (compareOp .NotEq) (rNeD K) := by
  subst hK; exact op_neD hu
theorem kop_catA (K : PySem.W.Frag) (hK : X.K = K := by rfl) : OpR X (binaryOp .Add) (rCatA K) := by
  subst hK; exact op_catA
theorem kop_repT (K : PySem.W.Frag) (hK : X.K = K := by rfl) : OpR X (binaryOp .Mult) (rRepT K) := by
  subst hK; exact op_repT
theorem kcall_len (K : PySem.W.Frag) (hK : X.K = K := by rfl) : CallR X (.builtin "len") (fun xs H Q => ∃ p ys, xs = [.ref p] ∧ (SqL K H p ys ∨ SqT K H p ys) ∧ Q (.int ys.length) H) := by
  subst hK; exact call_len_seq
theorem kc_len (K : PySem.W.Frag) : CallS K rc (fun xs H Q => ∃ p ys, xs = [.ref p] ∧ (SqL K H p ys ∨ SqT K H p ys) ∧ Q (.int ys.length) H) dLen := fun Hs H x a d e hx ho Q q => by
  unfold dLen at ho
  cases a with
  | list ds =>
    cases ho
    obtain ⟨p, vs, rfl, h1, h2⟩ := hx.lst_inv e
    refine ⟨p, vs, rfl, .inl (SqL.of h1), ?_⟩
    rw [h2.length]
    exact q _ Hs H (.refl e) (fun _ w => w) (.int _)
  | tuple ds =>
    cases ho
    obtain ⟨p, vs, rfl, h1, h2⟩ := hx.tup_inv
    refine ⟨p, vs, rfl, .inr (seqT_same e h1), ?_⟩
    rw [h2.length]
    exact q _ Hs H (.refl e) (fun _ w => w) (.int _)
  | _ => cases ho
theorem kcr_sum (K : PySem.W.Frag) (hc : X.calm = true) (hK : X.K = K := by rfl) : CallR X (.builtin "sum") (rSum K) := by
  subst hK; exact cr_sum hc
theorem kcr_all (K : PySem.W.Frag) (hc : X.calm = true) (hK : X.K = K := by rfl) : CallR X (.builtin "all") (rAll K) := by
  subst hK; exact cr_all hc
theorem kcr_any (K : PySem.W.Frag) (hc : X.calm = true) (hK : X.K = K := by rfl) : CallR X (.builtin "any") (rAny K) := by
  subst hK; exact cr_any hc
theorem kcr_max (K : PySem.W.Frag) (hc : X.calm = true) (hK : X.K = K := by rfl) : CallR X (.builtin "max") (rMax K) := by
  subst hK; exact cr_max hc
theorem kcall_tuple (K : PySem.W.Frag) (hK : X.K = K := by rfl) : CallR X (.type "tuple") (fun xs H Q => ∃ p ys, xs = [.ref p] ∧ ((SqL K H p ys ∧ ∀ l, H l = none → Q (.ref l) (upd H l (.tup ys))) ∨ (SqT K H p ys ∧ Q (.ref p) H))) := by
  subst hK; exact call_tuple_of
theorem kdf_listOf (K : PySem.W.Frag) (ha : DB X rc m a te f) (hm : X.mg "list" = none) (hg : Gl X "list" := by rfl) (he : starEach (a :: []) X.env = (false, eval a X.env) :: starEach [] X.env := by rfl) (hpl : (backTo pos (starEach [] X.env)).any (·.1) = false := by rfl) (hK : X.K = K := by rfl) :
    DF X rc (.Call (.Name "list" p) [a] [] pos) (tCB (fun xs H Q => ∃ p ys, xs = [.ref p] ∧ (SqL K H p ys ∨ SqT K H p ys) ∧ ∀ l, H l = none → Q (.ref l) (upd H l (.lst ys))) (tCons te tNil)) (mBind f fun d => mO (dItems d)) := by
  subst hK; exact df_listOf ha hm hg he hpl
theorem kde_isi (K : PySem.W.Frag) {T : String} {y : Str} {pt : Pos} (ha : DB X rc m a te f) (hm : X.mg "isinstance" = none) (hmT : X.mg y = none) (hvT : bootBuiltins y = some (.type T)) (hg : Gl X "isinstance" := by rfl) (hgT : Gl X y := by rfl) (hnT : y ≠ "__name__" := by decide) (hdT : (y == ("__debug__" : Str)) = false := by decide)
    (he : starEach [a, .Name y pt] X.env = (false, eval a X.env) :: starEach [.Name y pt] X.env := by rfl) (he2 : starEach [.Name y pt] X.env = (false, eval (.Name y pt) X.env) :: starEach [] X.env := by rfl) (hpl : (backTo pos (starEach [.Name y pt] X.env)).any (·.1) = false := by rfl) (hK : X.K = K := by rfl) :
    DE X rc (.Call (.Name "isinstance" p) [a, .Name y pt] [] pos) (tCB (rIsi K) (tCons te (tCons (tC (.ty T)) tNil))) (mUn (dIsi T) f) := by
  subst hK; exact de_isi ha hm hmT hvT hg hgT hnT hdT he he2 hpl
theorem kde_isiTL (K : PySem.W.Frag) {p pt p1 p2 : Pos} {kt : Nat} (ha : DB X rc m a te f) (hm : X.mg "isinstance" = none) (hm1 : X.mg "tuple" = none) (hm2 : X.mg "list" = none) (hg : Gl X "isinstance" := by rfl) (hg1 : Gl X "tuple" := by rfl) (hg2 : Gl X "list" := by rfl)
    (he : starEach [a, .Tuple [.Name "tuple" p1, .Name "list" p2] kt pt] X.env = (false, eval a X.env) :: starEach [.Tuple [.Name "tuple" p1, .Name "list" p2] kt pt] X.env := by rfl)
    (he2 : starEach [.Tuple [.Name "tuple" p1, .Name "list" p2] kt pt] X.env = (false, eval (.Tuple [.Name "tuple" p1, .Name "list" p2] kt pt) X.env) :: starEach [] X.env := by rfl)
    (he3 : starEach [.Name "tuple" p1, .Name "list" p2] X.env = (false, eval (.Name "tuple" p1) X.env) :: starEach [.Name "list" p2] X.env := by rfl)
    (he4 : starEach [.Name "list" p2] X.env = (false, eval (.Name "list" p2) X.env) :: starEach [] X.env := by rfl)
    (hpl : (backTo pos (starEach [.Tuple [.Name "tuple" p1, .Name "list" p2] kt pt] X.env)).any (·.1) = false := by rfl) (hK : X.K = K := by rfl) :
    DE X rc (.Call (.Name "isinstance" p) [a, .Tuple [.Name "tuple" p1, .Name "list" p2] kt pt] [] pos) (tCB (rIsiT K) (tCons te (tCons (tTup (tCons (tC (.ty "tuple")) (tCons (tC (.ty "list")) tNil))) tNil))) (mUn dIsiTL f) := by
  subst hK; exact de_isiTL ha hm hm1 hm2 hg hg1 hg2 he he2 he3 he4 hpl
theorem kdi_seq (K : PySem.W.Frag) (h : DB X rc m e te f) (hK : X.K = K := by rfl) : DI X rc m tg e (iSeq K te) (mItems f) := by
  subst hK; exact di_seq h
theorem kdi_zip2 (K : PySem.W.Frag) {elts : List Expr} {kk : Nat} (hm : X.mg "zip" = none) (ha : DB X rc m e te f) (hb : DB X rc m e2 te2 f2) (hg : Gl X "zip" := by rfl)
    (hs : starEach [e, e2] X.env = (false, eval e X.env) :: starEach [e2] X.env := by rfl) (hs2 : starEach [e2] X.env = (false, eval e2 X.env) :: starEach [] X.env := by rfl) (hpl : (backTo pos (starEach [e2] X.env)).any (·.1) = false := by rfl) (hK : X.K = K := by rfl) :
    DI X rc m (.Tuple elts kk tpos) (.Call (.Name "zip" p) [e, e2] [] pos) (iZip2 K (tCons te (tCons te2 tNil))) (mZip2 f f2) := by
  subst hK; exact di_zip2 hm ha hb hg hs hs2 hpl
theorem kdi_zip3 (K : PySem.W.Frag) {elts : List Expr} {kk : Nat} (hm : X.mg "zip" = none) (ha : DB X rc m e te f) (hb : DB X rc m e2 te2 f2) (hc : DB X rc m e3 te3 f3) (hg : Gl X "zip" := by rfl)
    (hs : starEach [e, e2, e3] X.env = (false, eval e X.env) :: starEach [e2, e3] X.env := by rfl) (hs2 : starEach [e2, e3] X.env = (false, eval e2 X.env) :: starEach [e3] X.env := by rfl) (hs3 : starEach [e3] X.env = (false, eval e3 X.env) :: starEach [] X.env := by rfl) (hpl : (backTo pos (starEach [e2, e3] X.env)).any (·.1) = false := by rfl) (hK : X.K = K := by rfl) :
    DI X rc m (.Tuple elts kk tpos) (.Call (.Name "zip" p) [e, e2, e3] [] pos) (iZip3 K (tCons te (tCons te2 (tCons te3 tNil)))) (mZip3 f f2 f3) := by
  subst hK; exact di_zip3 hm ha hb hc hg hs hs2 hs3 hpl
theorem kdi_enum (K : PySem.W.Frag) {elts : List Expr} {kk : Nat} (hm : X.mg "enumerate" = none) (ha : DB X rc m e te f) (hg : Gl X "enumerate" := by rfl) (hs : starEach [e] X.env = [(false, eval e X.env)] := by rfl) (hK : X.K = K := by rfl) :
    DI X rc m (.Tuple elts kk tpos) (.Call (.Name "enumerate" p) [e] [] pos) (iEnum1 K (tCons te tNil)) (mEnum f) := by
  subst hK; exact di_enum hm ha hg hs
theorem kde_callP (K : PySem.W.Frag) {k : Nat} {F : List D → Option D} {dvs : List V} {dds : List D} (h : Has X.prog X.w X.K X.mg X.base x k dvs (spP X.K F)) (hr : Room k X.A) (hd : ∀ H, RpAll X.K H dvs dds) (ha : DA X rc (e :: es) t fl) (hg : Gl X x := by rfl) (hdb : (x == ("__debug__" : Str)) = false := by decide)
    (he : starEach (e :: es) X.env = (false, eval e X.env) :: starEach es X.env := by rfl) (hpl : (backTo pos (starEach es X.env)).any (·.1) = false := by rfl) (hK : X.K = K := by rfl) :
    DE X rc (.Call (.Name x p) (e :: es) [] pos) (tCall (spP K F) dvs E0 t) (mBind fl fun ds => mO (F (ds ++ dds))) := by
  subst hK; exact de_callP h hr hd ha hg hdb he hpl
theorem kde_callG (K : PySem.W.Frag) {k : Nat} {F : List Sl → DL.Row → Option (D × DL.Row)} {fl : MM (List Sl)} (h : Has X.prog X.w X.K X.mg X.base x k [] (spG X.K F)) (hr : Room k X.A) (ha : DR X rc (e :: es) t fl) (hg : Gl X x := by rfl) (hdb : (x == ("__debug__" : Str)) = false := by decide)
    (he : starEach (e :: es) X.env = (false, eval e X.env) :: starEach es X.env := by rfl) (hpl : (backTo pos (starEach es X.env)).any (·.1) = false := by rfl) (hK : X.K = K := by rfl) :
    DE X rc (.Call (.Name x p) (e :: es) [] pos) (tCall (spG K F) [] E0 t) (mCallG F fl) := by
  subst hK; exact de_callG h hr ha hg hdb he hpl
/-! a list's methods, with the name's own reading -/
theorem kds_append {apos cpos : Pos} {i : Nat} (he : DE X rc e te f) (hN : X.N[i]? = some x := by rfl) (hv : Vis X.env.scope x := by first | exact Or.inl rfl | exact Or.inr (Or.inl rfl) | exact Or.inr (Or.inr rfl)) (hd : (x == ("__debug__" : Str)) = false := by decide)
    (hcd : (x == ("__classdict__" : Str)) = false := by decide)
    (hb : attributeBase (.Name x p) "append" X.env (eval (.Name x p) X.env) = eval (.Name x p) X.env := by rfl)
    (h2 : (((backTo cpos (starEach [e] X.env)).all (!·.1) && (backToKw cpos (keywordEach [] X.env)).all (·.1.isSome)) && decide (([e].length + ([] : List Keyword).length + if ([] : List Keyword).isEmpty = true then 0 else 1) < 30)) = true := by rfl)
    (h3 : (apos.endLine == cpos.line) = true := by rfl) (h4 : starEach (e :: []) X.env = (false, eval e X.env) :: starEach [] X.env := by rfl) (h5 : (backTo cpos (starEach [] X.env)).any (·.1) = false := by rfl)
    (hs : swapsWith (.Call (.Attribute (.Name x p) "append" apos) [e] [] cpos) none pos.line X.env = pure false := by rfl) :
    DS X rc (.Expr (.Call (.Attribute (.Name x p) "append" apos) [e] [] cpos) pos) (tDrop (tBM X.K "list" rAppend (tVar i) (tCons te tNil))) (gAppend i f) :=
  ds_append he hN hv hd hcd (pe_append (pv i hN hv hd hcd) he hb h2 h3 h4 h5) hs
theorem kds_extend {apos cpos : Pos} {i : Nat} (he : DB X rc m e te f) (hN : X.N[i]? = some x := by rfl) (hv : Vis X.env.scope x := by first | exact Or.inl rfl | exact Or.inr (Or.inl rfl) | exact Or.inr (Or.inr rfl)) (hd : (x == ("__debug__" : Str)) = false := by decide)
    (hcd : (x == ("__classdict__" : Str)) = false := by decide)
    (hb : attributeBase (.Name x p) "extend" X.env (eval (.Name x p) X.env) = eval (.Name x p) X.env := by rfl)
    (h2 : (((backTo cpos (starEach [e] X.env)).all (!·.1) && (backToKw cpos (keywordEach [] X.env)).all (·.1.isSome)) && decide (([e].length + ([] : List Keyword).length + if ([] : List Keyword).isEmpty = true then 0 else 1) < 30)) = true := by rfl)
    (h3 : (apos.endLine == cpos.line) = true := by rfl) (h4 : starEach (e :: []) X.env = (false, eval e X.env) :: starEach [] X.env := by rfl) (h5 : (backTo cpos (starEach [] X.env)).any (·.1) = false := by rfl)
    (hs : swapsWith (.Call (.Attribute (.Name x p) "extend" apos) [e] [] cpos) none pos.line X.env = pure false := by rfl) :
    DS X rc (.Expr (.Call (.Attribute (.Name x p) "extend" apos) [e] [] cpos) pos) (tDrop (tBM X.K "list" rExtend (tVar i) (tCons te tNil))) (gExtend i f) :=
  ds_extend he hN hv (pe_extend (pv i hN hv hd hcd) he hb h2 h3 h4 h5) hs
theorem kds_insert {apos cpos : Pos} {i : Nat} (ha : DE X rc a te f) (hb2 : DE X rc b te2 f2) (hN : X.N[i]? = some x := by rfl) (hv : Vis X.env.scope x := by first | exact Or.inl rfl | exact Or.inr (Or.inl rfl) | exact Or.inr (Or.inr rfl)) (hd : (x == ("__debug__" : Str)) = false := by decide)
    (hcd : (x == ("__classdict__" : Str)) = false := by decide)
    (hb : attributeBase (.Name x p) "insert" X.env (eval (.Name x p) X.env) = eval (.Name x p) X.env := by rfl)
    (h2 : (((backTo cpos (starEach [a, b] X.env)).all (!·.1) && (backToKw cpos (keywordEach [] X.env)).all (·.1.isSome)) && decide (([a, b].length + ([] : List Keyword).length + if ([] : List Keyword).isEmpty = true then 0 else 1) < 30)) = true := by rfl)
    (h3 : (apos.endLine == cpos.line) = true := by rfl) (h4 : starEach [a, b] X.env = (false, eval a X.env) :: starEach [b] X.env := by rfl) (h6 : starEach [b] X.env = (false, eval b X.env) :: starEach [] X.env := by rfl) (h5 : (backTo cpos (starEach [b] X.env)).any (·.1) = false := by rfl)
    (hs : swapsWith (.Call (.Attribute (.Name x p) "insert" apos) [a, b] [] cpos) none pos.line X.env = pure false := by rfl) :
    DS X rc (.Expr (.Call (.Attribute (.Name x p) "insert" apos) [a, b] [] cpos) pos) (tDrop (tBM X.K "list" rInsert (tVar i) (tCons te (tCons te2 tNil)))) (gInsert i f f2) :=
  ds_insert ha hb2 hN hv (pe_insert (pv i hN hv hd hcd) ha hb2 hb h2 h3 h4 h6 h5) hs
end
theorem no_spP {K : PySem.W.Frag} {vs : List V} {H : Hp} {Q : VK} {E : XK} (h : spP K (fun _ => none) vs H Q E) : False := by
  obtain ⟨_, _, _, _, _, h, _⟩ := h
  cases h
section
variable {X : Cx} {rc : Rc} {m : Bool} {a : Expr} {pos : Pos} {ta : TE} {fa : MM D}
theorem dt_isN {j} {pos'} (ha : DB X rc m a ta fa) (h1 : behindInMarks .Is (.Constant .none j pos') = false := by exact nomark _) : DT X rc (.Compare a [.Is] [.Constant .none j pos'] pos) (tB (tIsN ta)) (mTest (mUn (fun d => some (.bool (dIsN d))) fa)) := ⟨pt_cmp (pc_isN ha.pe) h1, sem_test (de_isN (pos := pos) (j := j) (pos' := pos') ha).se⟩
theorem dt_notN {j} {pos'} (ha : DB X rc m a ta fa) (h1 : behindInMarks .IsNot (.Constant .none j pos') = false := by exact nomark _) : DT X rc (.Compare a [.IsNot] [.Constant .none j pos'] pos) (tB (tNotN ta)) (mTest (mUn (fun d => some (.bool (!dIsN d))) fa)) := ⟨pt_cmp (pc_notN ha.pe) h1, sem_test (de_notN (pos := pos) (j := j) (pos' := pos') ha).se⟩
end
end DL

namespace DL
open PySem PySem.Spec PyProof.Rows L2
/-! ### the law's end, with the module's NoSeer (for divisions of big ints) -/
/-- only the script's list may be hidden: the rest of the heap is the heap -/
structure OnlyAt (h : Heap) (H : Hp) (a : Addr) (vs : List Value) : Prop where
  at_ : h.get? a = some { cls := .type "list", data := .seq vs.toArray }
  only : ∀ b, b ≠ a → H b = none
section
variable {h : Heap} {H : Hp} {a : Addr} {vs : List Value}
theorem OnlyAt.get (O : OnlyAt h H a vs) {b : Addr} {o : Obj} (e : h.get? b = some o) (hd : o.cls ≠ .type "list" ∨ ∀ xs n, o.data ≠ .seq xs n) : (hidT h H).get? b = some o :=
  hidT_get e (O.only b fun q => by
    subst q
    rw [O.at_] at e
    cases e
    rcases hd with hd | hd
    · exact hd rfl
    · exact hd _ _ rfl)
theorem OnlyAt.ns (O : OnlyAt h H a vs) {b : Addr} {m : Str → Option Value} (n : h.Ns b m) : (hidT h H).Ns b m := by
  obtain ⟨o, es, ep, e, d, r⟩ := n
  exact ⟨o, es, ep, O.get e (.inr fun xs n z => by rw [d] at z; cases z), d, r⟩
theorem OnlyAt.seer (O : OnlyAt h H a vs) (S : h.NoSeer) : (hidT h H).NoSeer where
  statics := let ⟨m, n, r⟩ := S.statics; ⟨m, O.ns n, r⟩
  mods := let ⟨m, n, r⟩ := S.mods; ⟨m, O.ns n, r⟩
  imp := let ⟨m, n, r⟩ := S.imp; ⟨m, O.ns n, r⟩
  main := let ⟨mg, bm, ob, n, r1, r2, r3, r4⟩ := S.main; ⟨mg, bm, ob, O.ns n, r1, O.get r2 (.inl (by rw [r3]; simp)), r3, r4⟩
end
theorem law_callS {P : Program} {w : World} {K : PySem.W.Frag} {mg mb : Str → Option Value} {k : Nat} {fa a : Addr} {fd : FuncData} {x : Str} {sp : Sp} {s : Shared} {vs : List Value} {ns : List Int}
    (KX : K.In s.heap) (hns : s.heap.Ns mainGlobals mg) (hb : s.heap.Ns builtinsNs mb) (hbb : ∀ x : Str, x ≠ "__name__" → mb x = bootBuiltins x) (hlim : s.heap.NoLimit) (hS : s.heap.NoSeer) (hg : s.gens = #[])
    (ha : s.heap.get? a = some { cls := .type "list", data := .seq vs.toArray }) (hi : IntsAre vs ns) (hl : ns.length ≤ sizeLine) (hr : Room k callerA)
    (F : ∀ base : Heap, K.In base → base.Ns mainGlobals mg → base.NoSeer → FnOk P w K mg base CX0 k fa fd [x] sp) (hbind : ∀ (s : Shared) (u : Value), BindsTo s fd ⟨[u], []⟩ [(x, u)])
    (hsp : ∀ H : Hp, SqL K H a (ns.map V.int) → sp [.ref a] H (fun v _ => v = .bl true) fun _ _ _ => False) :
    codeAny (model P w) callerA (.call (.ref fa) ⟨[.ref a], []⟩) (fun r s' => r = .ok (.ret (.bool true)) ∧ OldK s.heap s'.heap ∧ s'.os = s.os ∧ AllBare s'.gens) s := by
  have rv := vals_ints hi
  have main : ∀ H : Hp, OnlyAt s.heap H a vs → (∀ u, H a = some u → K.lookup a = none ∧ ∃ o xs, u = .frz o (.lst xs)) → SqL K H a (ns.map V.int) → HOk P w H s.heap → codeAny (model P w) callerA (.call (.ref fa) ⟨[.ref a], []⟩) (fun r s' => r = .ok (.ret (.bool true)) ∧ OldK s.heap s'.heap ∧ s'.os = s.os ∧ AllBare s'.gens) s := by
    intro H O hu hq hok
    have KB : K.In (hidT s.heap H) := fun b o e => hidT_get (KX b o e) (by
      by_cases z : b = a
      · subst z
        cases q : H b with
        | none => rfl
        | some u => rw [(hu u q).1] at e; cases e
      · exact O.only b z)
    have M : Mod K mg (hidT s.heap H) := ⟨KB, O.ns hns, ⟨mb, O.ns hb, hbb⟩, let ⟨mc, n1, n2⟩ := hlim; ⟨mc, O.ns n1, n2⟩⟩
    have e0 : Env0 P w K mg (hidT s.heap H) callerA [] s H := ⟨rfl, M, fun b o e => of_hidT e, Nat.le_of_eq (hidT_size _ _), trivial, fun b q => absurd (show b ∈ ([] : List Addr) from q) (by simp), hok, .of_eq hg⟩
    refine codeAny_mono ((F _ KB (O.ns hns) (O.seer hS)).run callerA [] s H ⟨[.ref a], []⟩ [.ref a] [.ref a] _ _ hr e0 (hbind s (.ref a)) (.cons rfl .nil) (hsp H hq)) fun r s' q => ?_
    match r, q with
    | .error e, q => exact (show False from q).elim
    | .ok .next, q => exact (show False from q).elim
    | .ok .brk, q => exact (show False from q).elim
    | .ok .cont, q => exact (show False from q).elim
    | .ok (.ret u), ⟨v, H', os, bare, un, hok', rel, (hv : v = .bl true)⟩ =>
      subst hv
      obtain rfl : u = Value.bool true := rel
      refine ⟨rfl, OldK.of_keep fun b o e => ?_, os, bare⟩
      cases z : H b with
      | none => exact un.keep b o e z (by intro y; exact absurd (show b ∈ ([] : List Addr) from y) (by simp)) (by simp)
      | some u =>
        have eb : b = a := Classical.byContradiction fun n => by rw [O.only b n] at z; cases z
        subst eb
        obtain ⟨_, ob, xs, rfl⟩ := hu u z
        obtain ⟨e1, _⟩ := hok b _ z
        obtain ⟨e2, _⟩ := hok' b _ (un.frzs b ob _ z)
        rw [e] at e1
        cases e1
        exact e2
  cases hk : K.lookup a with
  | some o =>
    have e := KX a o hk
    rw [ha] at e
    cases e
    exact main (fun _ => none) ⟨ha, fun _ _ => rfl⟩ (fun u z => nomatch z) (.inr ⟨_, vs.toArray, _, hk, rfl, rfl, rfl, by rw [List.size_toArray, hi.length]; exact hl, by simpa using rv⟩) (fun b u z => nomatch (show (none : Option HO) = some u from z))
  | none =>
    refine main (fun b => if b = a then some (.frz { cls := .type "list", data := .seq vs.toArray } (.lst (ns.map V.int))) else none) ⟨ha, fun b n => if_neg n⟩ (fun u z => ?_) (.inl (.inr ⟨_, if_pos rfl⟩)) (fun b u z => ?_)
    · have z' := (if_pos rfl).symm.trans z
      cases z'
      exact ⟨hk, _, _, rfl⟩
    · by_cases hb : b = a
      · have z' := (if_pos hb).symm.trans z
        cases z'
        subst hb
        exact ⟨ha, by rw [List.length_map]; exact hl, vs, _, rv, ha⟩
      · have z' := (if_neg hb).symm.trans z
        cases z'
theorem walk_ofS {l : PySem.W.OpenLaw} {n k : Nat} {q : Program} {loose : List Str} {XP : (Str → Option Value) → Heap → Prop} {YP : World → Heap → Prop} {d : DefRec} {x : Str}
    (hn : l.most = some n) (hn2 : n ≤ sizeLine) (hdf : d.params.defaults = []) (hr : Room k callerA) (hq : importsNone q = true)
    (F : ∀ (w : World) (mg : Str → Option Value) (fa : Addr) (h : Heap), YP w h → h.Ns mainGlobals mg → mg d.name = some (.ref fa) →
      ∃ (K : PySem.W.Frag) (fd : FuncData) (sp : Sp), K.In h ∧ (∀ (s : Shared) (u : Value), BindsTo s fd ⟨[u], []⟩ [(x, u)]) ∧
        (∀ (H : Hp) (a : Addr) (ns : List Int), ns.length ≤ n → SqL K H a (ns.map V.int) → sp [.ref a] H (fun v _ => v = .bl true) fun _ _ _ => False) ∧
        ∀ base : Heap, K.In base → base.Ns mainGlobals mg → base.NoSeer → FnOk l.prog w K mg base CX0 k fa fd [x] sp) :
    PySem.W.WalkO q loose XP YP l.row.toRowW d [] (fun f vs => PySem.call f vs) := by
  refine Att.attach_call hn hdf fun w s₀ s₁ mg mb fa o pm cd doc a vs ns G Y ho hd hcd hmg hobj hints hlen hg => ?_
  obtain ⟨K, fd, sp, KX, hb, hsp, hF⟩ := F w mg fa _ Y G.T.g hmg
  exact law_callS KX G.T.g G.T.b G.T.builtins G.T.nolimit (G.T.seer hq) hg hobj hints (Nat.le_trans hlen hn2) hr hF hb (fun H hS => hsp H a ns hlen hS)
end DL

namespace DL
open PySem PySem.Spec PyProof.Rows L2
/-! ### the row's own cells -/
def rowGet (r : Row) : Nat → Option Int
  | 1 => some r.2.1
  | 2 => some r.2.2.1
  | 3 => some r.2.2.2
  | _ => none
def rowSet (r : Row) (v : Int) : Nat → Option Row
  | 1 => some (r.1, v, r.2.2.1, r.2.2.2)
  | 2 => some (r.1, r.2.1, v, r.2.2.2)
  | 3 => some (r.1, r.2.1, r.2.2.1, v)
  | _ => none
theorem rowGet_at {sc : Addr} {r : Row} {j : Nat} {v : Int} (h : rowGet r j = some v) : L2.atI (rowV sc r) (j : Int) = some (.int v) := by
  match j, h with
  | 1, h => cases h; rfl
  | 2, h => cases h; rfl
  | 3, h => cases h; rfl
theorem rowSet_at {sc : Addr} {r r' : Row} {v : Int} {j : Nat} (h : rowSet r v j = some r') : ixN (rowV sc r).length (j : Int) = some j ∧ (rowV sc r).set j (.int v) = rowV sc r' ∧ r'.1 = r.1 := by
  match j, h with
  | 1, h => cases h; exact ⟨rfl, rfl, rfl⟩
  | 2, h => cases h; exact ⟨rfl, rfl, rfl⟩
  | 3, h => cases h; exact ⟨rfl, rfl, rfl⟩
section
variable {X : Cx} {rc : Rc} {x : Str} {i j : Nat} {p pos cpos ipos lpos : Pos} {e : Expr} {te : TE} {f : MM D} {kc : Nat}
def mRowI (i j : Nat) : MM D := fun ρ => match ρ.get i with
  | .row => (match rowGet ρ.row j with
    | some v => some (.int v, ρ.row)
    | none => none)
  | _ => none
/-- what a row's slot tells -/
theorem row_slot {K : PySem.W.Frag} {Hs0 H0 Hs H : Hp} {σ : L2.St} {ρ : Ev} (R : Rel K rc Hs0 H0 σ Hs H ρ) (e : ρ.get i = .row) :
    ∃ a sc, rc = some (a, sc, ρ.row.1) ∧ σ[i]? = some (some (.ref a)) ∧ H a = some (.lst (rowV sc ρ.row)) ∧ SqL K H sc (ρ.row.1.map V.int) := by
  have h := R.sl i
  rw [e] at h
  obtain ⟨a, h1, h2⟩ := h
  cases hr : rc with
  | none => rw [hr] at h1; cases h1
  | some q =>
    obtain ⟨a', sc, ns⟩ := q
    rw [hr] at h1
    cases h1
    have r := R.row
    rw [hr] at r
    obtain ⟨⟨r1, r2⟩, r3⟩ := r
    subst r2
    exact ⟨a', sc, rfl, h2, r1, r3⟩
theorem de_rowI (hN : X.N[i]? = some x := by rfl) (hv : Vis X.env.scope x := by first | exact Or.inl rfl | exact Or.inr (Or.inl rfl) | exact Or.inr (Or.inr rfl)) (hd : (x == ("__debug__" : Str)) = false := by decide)
    (hcd : (x == ("__classdict__" : Str)) = false := by decide) (hj : ((j : Nat) : Int) = (j : Int) := by rfl) (hs : PlainIx (.Constant (.int (j : Int)) kc cpos) := by exact fun _ _ => rfl) :
    DE X rc (.Subscript (.Name x p) (.Constant (.int (j : Int)) kc cpos) pos) (tOp (rIx X.K) (tVar i) (tC (.int (j : Int)))) (mRowI i j) := ⟨pe_ix ix_seq (pe_var hN hv hd hcd) pe_int hs, fun Hs0 H0 σ Hs H ρ R d w hf Q q => by
  unfold mRowI at hf
  cases e1 : ρ.get i with
  | row =>
    rw [e1] at hf
    simp only at hf
    cases e2 : rowGet ρ.row j with
    | none => rw [e2] at hf; cases hf
    | some v =>
      rw [e2] at hf
      cases hf
      obtain ⟨a, sc, h1, h2, h3, h4⟩ := row_slot R e1
      exact ⟨_, h2, .inl ⟨a, _, _, _, rfl, rfl, SqL.of h3, rowGet_at e2, q _ Hs H (.refl R.same) R.row (.int v)⟩⟩
  | _ => rw [e1] at hf; cases hf⟩
def mRowLen (i : Nat) : MM D := fun ρ => match ρ.get i with
  | .row => some (.int ρ.row.1.length, ρ.row)
  | _ => none
theorem row_scr {K : PySem.W.Frag} {sc : Addr} {r : Row} : L2.atI (rowV sc r) 0 = some (.ref sc) := rfl
theorem de_rowLen {np : Pos} (hm : X.mg "len" = none) (hg : Gl X "len" := by rfl) (hN : X.N[i]? = some x := by rfl) (hv : Vis X.env.scope x := by first | exact Or.inl rfl | exact Or.inr (Or.inl rfl) | exact Or.inr (Or.inr rfl)) (hd : (x == ("__debug__" : Str)) = false := by decide)
    (hcd : (x == ("__classdict__" : Str)) = false := by decide) (hs : PlainIx (.Constant (.int 0) kc cpos) := by exact fun _ _ => rfl)
    (he : starEach ((.Subscript (.Name x p) (.Constant (.int 0) kc cpos) ipos) :: []) X.env = (false, eval (.Subscript (.Name x p) (.Constant (.int 0) kc cpos) ipos) X.env) :: starEach [] X.env := by rfl) (hpl : (backTo pos (starEach [] X.env)).any (·.1) = false := by rfl) :
    DE X rc (.Call (.Name "len" np) [.Subscript (.Name x p) (.Constant (.int 0) kc cpos) ipos] [] pos) (tCB (fun xs H Q => ∃ p ys, xs = [.ref p] ∧ (SqL X.K H p ys ∨ SqT X.K H p ys) ∧ Q (.int ys.length) H) (tCons (tOp (rIx X.K) (tVar i) (tC (.int 0))) tNil)) (mRowLen i) :=
  ⟨L2.pe_callB call_len_seq hg hm PySem.boot_len (pa_cons (pe_ix ix_seq (pe_var hN hv hd hcd) pe_int hs) pa_nil he) (by decide) (by decide) he hpl, fun Hs0 H0 σ Hs H ρ R d w hf Q q => by
  unfold mRowLen at hf
  cases e1 : ρ.get i with
  | row =>
    rw [e1] at hf
    cases hf
    obtain ⟨a, sc, h1, h2, h3, h4⟩ := row_slot R e1
    refine ⟨_, h2, .inl ⟨a, _, _, _, rfl, rfl, SqL.of h3, rfl, sc, _, rfl, .inl h4, ?_⟩⟩
    rw [List.length_map]
    exact q _ Hs H (.refl R.same) R.row (.int _)
  | _ => rw [e1] at hf; cases hf⟩
def mRowCell (i : Nat) (f : MM D) : MM D := fun ρ => match ρ.get i with
  | .row => (match f ρ with
    | some (.int k, r) => if r.1 = ρ.row.1 then (match L2.atI (r.1) k with
      | some v => some (.int v, r)
      | none => none) else none
    | _ => none)
  | _ => none
theorem atI_map {l : List Int} {k v : Int} (h : L2.atI l k = some v) : L2.atI (l.map V.int) k = some (.int v) := by
  unfold L2.atI at h ⊢
  rw [List.length_map]
  cases q : ixN l.length k with
  | none => rw [q] at h; cases h
  | some j =>
    rw [q] at h
    show (l.map V.int)[j]? = _
    rw [List.getElem?_map, show l[j]? = some v from h]
    rfl
theorem de_rowCell (hi : DE X rc e te f) (hN : X.N[i]? = some x := by rfl) (hv : Vis X.env.scope x := by first | exact Or.inl rfl | exact Or.inr (Or.inl rfl) | exact Or.inr (Or.inr rfl)) (hd : (x == ("__debug__" : Str)) = false := by decide)
    (hcd : (x == ("__classdict__" : Str)) = false := by decide) (hs : PlainIx (.Constant (.int 0) kc cpos) := by exact fun _ _ => rfl) (hs2 : PlainIx e := by exact fun _ _ => rfl) :
    DE X rc (.Subscript (.Subscript (.Name x p) (.Constant (.int 0) kc cpos) ipos) e pos) (tOp (rIx X.K) (tOp (rIx X.K) (tVar i) (tC (.int 0))) te) (mRowCell i f) :=
  ⟨pe_ix ix_seq (pe_ix ix_seq (pe_var hN hv hd hcd) pe_int hs) hi.pe hs2, fun Hs0 H0 σ Hs H ρ R d w hf Q q => by
  unfold mRowCell at hf
  cases e1 : ρ.get i with
  | row =>
    rw [e1] at hf
    simp only at hf
    cases e2 : f ρ with
    | none => rw [e2] at hf; cases hf
    | some pr =>
      obtain ⟨kd, r⟩ := pr
      rw [e2] at hf
      cases kd with
      | int k =>
        simp only at hf
        by_cases hr : r.1 = ρ.row.1
        · rw [if_pos hr] at hf
          cases e3 : L2.atI r.1 k with
          | none => rw [e3] at hf; cases hf
          | some v =>
            rw [e3] at hf
            cases hf
            obtain ⟨a, sc, h1, h2, h3, h4⟩ := row_slot R e1
            refine ⟨_, h2, .inl ⟨a, _, _, _, rfl, rfl, SqL.of h3, rfl, ?_⟩⟩
            refine hi.se Hs0 H0 σ Hs H ρ R _ _ e2 _ fun y Hs1 H1 ex w1 p1 => ?_
            have w2 := w1
            rw [h1] at w2
            exact .inl ⟨sc, _, k, _, rfl, p1.int_inv, w2.2, atI_map (by rw [← hr]; exact e3), q _ Hs1 H1 ex w1 (.int _)⟩
        · rw [if_neg hr] at hf; cases hf
      | _ => cases hf
  | _ => rw [e1] at hf; cases hf⟩
/-- row[j] = e -/
def gRowSet (i j : Nat) (f : MM D) : MS := fun ρ => match f ρ with
  | some (.int v, r) => (match ρ.get i, rowSet r v j with
    | .row, some r' => some (.nx (ρ.wr r'))
    | _, _ => none)
  | _ => none
theorem ds_rowSet {apos : Pos} (he : DE X rc e te f) (hN : X.N[i]? = some x := by rfl) (hv : Vis X.env.scope x := by first | exact Or.inl rfl | exact Or.inr (Or.inl rfl) | exact Or.inr (Or.inr rfl)) (hd : (x == ("__debug__" : Str)) = false := by decide)
    (hcd : (x == ("__classdict__" : Str)) = false := by decide)
    (ha : ∀ v, assign (.Subscript (.Name x p) (.Constant (.int (j : Int)) kc cpos) apos) X.env v = (do
      let ov ← holding [v] (eval (.Name x p) X.env)
      let iv ← holding [v, ov] (eval (.Constant (.int (j : Int)) kc cpos) X.env)
      standAt apos
      holding [v, ov, iv] (setItem ov iv v)
      release [v, ov, iv] []) := by intro _; rfl)
    (hs : swapsWithSole [.Subscript (.Name x p) (.Constant (.int (j : Int)) kc cpos) apos] e pos.line X.env = pure false := by rfl) (hw : swappedStores [.Subscript (.Name x p) (.Constant (.int (j : Int)) kc cpos) apos] e X.env = pure none := by rfl)
    (h1 : (assignEach [.Subscript (.Name x p) (.Constant (.int (j : Int)) kc cpos) apos] X.env).map (·.2) = [assign (.Subscript (.Name x p) (.Constant (.int (j : Int)) kc cpos) apos) X.env] := by rfl) :
    DS X rc (.Assign [.Subscript (.Name x p) (.Constant (.int (j : Int)) kc cpos) apos] e pos) (tAsg te (gSub (tVar i) (tC (.int (j : Int))) rSetL)) (gRowSet i j f) :=
  ⟨ps_asg he.pe (pg_sub (pe_var hN hv hd hcd) pe_int set_list ha) hs hw h1, fun Hs0 H0 σ Hs H ρ R oc hf E P => by
  unfold gRowSet at hf
  cases e1 : f ρ with
  | none => rw [e1] at hf; cases hf
  | some pr =>
    obtain ⟨vd, r⟩ := pr
    rw [e1] at hf
    cases vd with
    | int v =>
      simp only at hf
      cases e2 : ρ.get i with
      | row =>
        cases e3 : rowSet r v j with
        | none => rw [e2, e3] at hf; cases hf
        | some r' =>
          rw [e2, e3] at hf
          cases hf
          refine he.se Hs0 H0 σ Hs H ρ R _ _ e1 _ fun y Hs1 H1 ex w1 p1 => ?_
          have R1 := R.ext' ex w1
          obtain ⟨a, sc, h1, h2, h3, h4⟩ := row_slot R1 (show (ρ.wr r).get i = .row from e2)
          obtain ⟨h5, h6, h7⟩ := rowSet_at (sc := sc) e3
          obtain rfl := p1.int_inv
          refine ⟨_, h2, a, _, _, j, rfl, rfl, h3, h5, ?_⟩
          show E.nx σ (upd H1 a (.lst ((rowV sc r).set j (.int v))))
          rw [h6]
          have h1' : rc = some (a, sc, r.1) := h1
          have ha0 : rc.ad = some a := by rw [h1']; rfl
          obtain ⟨n0, nS0⟩ := R.rn a ha0
          have nS1 : Hs1 a = none := R1.ext.p a n0 nS0
          have ex2 : Ext rc Hs1 H1 Hs1 (upd H1 a (.lst (rowV sc r'))) := by
            refine ⟨Same.refl _, fun b o e => ?_, fun b o n e => ?_, fun b e => ?_, fun b _ e => e⟩
            · rw [upd_ne (fun z => by rw [z, nS1] at e; cases e)]; exact ex.s b o e
            · rw [upd_ne (fun z => n (by rw [z]; exact ha0))]; exact e
            · by_cases z : b = a
              · subst z; rw [upd_same]; simp
              · rw [upd_ne z]; exact e
          have nsc : ∀ o, H1 sc = some o → (∃ u ys, o = .frz u (.lst ys)) ∨ (∃ ys, o = .lst ys ∧ ys.length = r.1.length) → True := fun _ _ _ => trivial
          have scOld : SqL X.K H1 sc (r.1.map V.int) := h4
          have hsc : SqL X.K (upd H1 a (.lst (rowV sc r'))) sc (r'.1.map V.int) := by
            rw [h7]
            have z : sc ≠ a ∨ sc = a := by by_cases z : sc = a; exact .inr z; exact .inl z
            rcases scOld with hq | hq
            · have nsa : sc ≠ a := by
                intro z
                subst z
                have h3' : H1 sc = some (.lst (rowV sc r)) := h3
                rcases hq with hq | ⟨o, hq⟩
                · rw [h3'] at hq
                  have hq' := HO.lst.inj (Option.some.inj hq)
                  cases hm : r.1 with
                  | nil => rw [hm] at hq'; cases hq'
                  | cons z zs => rw [hm] at hq'; cases hq'
                · rw [h3'] at hq; cases hq
              rcases hq with hq | ⟨o, hq⟩
              · exact .inl (.inl (by rw [upd_ne nsa]; exact hq))
              · exact .inl (.inr ⟨o, by rw [upd_ne nsa]; exact hq⟩)
            · exact .inr hq
          have w3 : RowAt X.K rc (upd H1 a (.lst (rowV sc r'))) r' := by
            rw [h1']
            exact ⟨⟨upd_same, h7⟩, by rw [← h7]; exact hsc⟩
          have R2 := R1.ext' ex2 w3
          exact P σ Hs1 _ ex.g R2
      | _ => rw [e2] at hf; cases hf
    | _ => cases hf⟩
theorem s_pow {K : PySem.W.Frag} : OpS K rc (rI CPow fun i j => .int (i ^ j.toNat)) dPow := ops_rI fun a b d h => by
  cases a <;> cases b <;> try (cases h)
  rename_i i j
  unfold dPow at h
  simp only at h
  by_cases c : 0 ≤ j ∧ j ≤ 1000 ∧ i.natAbs < 2 ^ 64
  · rw [if_pos c] at h
    cases h
    exact ⟨_, _, rfl, rfl, ⟨c.1, by omega, c.2.2⟩, fun _ => .int _⟩
  · rw [if_neg c] at h; cases h
end
/-! ### the law: its first statement makes the row -/
section
variable {P : Program} {w : World} {K : PySem.W.Frag} {mg : Str → Option Value} {base : Heap} {qual x : Str} {params : Arguments} {body : List Stmt} {scope : Scope} {f : Addr} {fd : FuncData} {N : List Str} {k : Nat} {g : MS}
abbrev tRow : TS := tAsg (tLst (tCons (tVar 0) (tCons (tC (.int 0)) (tCons (tC (.int 5800)) (tCons (tC (.int 0)) tNil))))) (gName 1)
/-- the frame behind the first statement -/
def ev0 (n : Nat) (ns : List Int) : Ev := ⟨(ns, 0, 5800, 0), .no :: .row :: List.replicate (n - 2) .no⟩
theorem ev0_get (n : Nat) (ns : List Int) (i : Nat) : (ev0 n ns).get (i + 2) = .no := by
  show (List.replicate (n - 2) Sl.no).getD i .no = .no
  rw [List.getD_eq_getElem?_getD, List.getElem?_replicate]
  split <;> rfl
/-- the law's promise -/
def spLaw (K : PySem.W.Frag) (g : MS) (n : Nat) : Sp := fun vs H Q _ => ∃ a ns, vs = [.ref a] ∧ SqL K H a (ns.map V.int) ∧ (∃ w', g (ev0 n ns) = some (.ret (.bool true) w')) ∧ ∀ H', Q (.bl true) H'
theorem law_okG {p1 p2 : Str} {ns : List Str} {st : Stmt} {rest : List Stmt} (F : FunD K x qual params (st :: rest) scope [] [] f fd) (S : FnScope N [p1] scope) (hn : N.length = ns.length + 2)
    (hb : ∀ (cdv : Value) (A : Around) (outer : List Env) (s : Shared) (H : Hp) (E : XK), Room k (A.deeper (envOfC qual scope s.heap.objs.size f cdv)) → PS (cxOf CX0 P w K mg base N qual scope f cdv A outer s H E).nox st tRow ∧ ∃ t, ∀ rc, DSs (cxOf CX0 P w K mg base N qual scope f cdv A outer s H E).nox rc rest t g) :
    FnOk P w K mg base CX0 (k + 1) f fd [p1] (spLaw K g N.length) := by
  refine F.ok S (fun vs H Q E h => ?_) (fun cdv A outer s H vs Q E hr h => ?_)
  · obtain ⟨a, is, rfl, _⟩ := h
    rfl
  · obtain ⟨a, is, rfl, h2, ⟨w', h3⟩, h4⟩ := h
    obtain ⟨h5, t, ht⟩ := hb cdv A outer s H E hr
    refine ⟨tSeq tRow t, PSs.nox (pss_cons h5 (ht none).ps), ?_⟩
    refine ⟨.ref a, rfl, ?_⟩
    refine ⟨by show 4 ≤ sizeLine; decide, fun l hl => ?_⟩
    have nl : ∀ b o, H b = some o → b ≠ l := fun b o e z => by rw [z, hl] at e; cases e
    have R : Rel K (some (l, a, is)) (fun _ => none) (upd H l (.lst (rowV a (is, 0, 5800, 0)))) ((start N [.ref a]).set 1 (some (.ref l))) (fun _ => none) (upd H l (.lst (rowV a (is, 0, 5800, 0)))) (ev0 N.length is) := by
      have hq : SqL K (upd H l (.lst (rowV a (is, 0, 5800, 0)))) a (is.map V.int) := by
        rcases h2 with (h2 | ⟨o, h2⟩) | h2
        · exact .inl (.inl (by rw [upd_ne (nl _ _ h2)]; exact h2))
        · exact .inl (.inr ⟨o, by rw [upd_ne (nl _ _ h2)]; exact h2⟩)
        · exact .inr h2
      refine ⟨.refl (fun b o e => by cases e), (fun b o e => by cases e), ⟨⟨upd_same, rfl⟩, hq⟩, fun b e => ?_, fun b sc ms e => ?_, ?_, fun i => ?_, fun i j p hij hi hj => ?_⟩
      · cases e
        exact ⟨by rw [upd_same]; simp, rfl⟩
      · cases e
        exact hq
      · simp [ev0, L2.start]
        omega
      · match i with
        | 0 => trivial
        | 1 =>
          refine ⟨l, rfl, ?_⟩
          rw [List.getElem?_set_self]
          simp [L2.start]
          omega
        | i + 2 =>
          have : (ev0 N.length is).get (i + 2) = .no := by
            exact ev0_get _ _ _
          rw [this]; trivial
      · match i with
        | 0 => exact hi.elim
        | 1 => exact hi.elim
        | i + 2 =>
          have : (ev0 N.length is).get (i + 2) = .no := by
            exact ev0_get _ _ _
          rw [this] at hi; exact hi.elim
    exact (ht (some (l, a, is))).se _ _ _ _ _ _ R _ h3 _ fun v Hs' H' ex wr p => by
      cases p
      exact h4 H'
end
/-! ### tuples of ints that the top made -/
def tupBA (K : PySem.W.Frag) (a : Addr) (is : List Int) : Bool := match K.lookup a with
  | some ⟨.type c, _, .seq its _, _⟩ => decide (c = "tuple") && (decide (its.size ≤ sizeLine) && He.relAll (is.map V.int) its.toList)
  | _ => false
theorem rp_ints {K : PySem.W.Frag} {H : Hp} : ∀ is : List Int, RpAll K H (is.map V.int) (is.map PyData.int)
  | [] => .nil
  | i :: r => .cons (.int i) (rp_ints r)
theorem rp_tupBA {K : PySem.W.Frag} {a : Addr} {is : List Int} (h : tupBA K a is = true) (H : Hp) : Rp K H (.ref a) (.tuple (is.map PyData.int)) := by
  refine .tup (xs := is.map V.int) ?_ (rp_ints is)
  unfold tupBA at h
  split at h
  · rename_i c d its n sl q
    simp only [Bool.and_eq_true, decide_eq_true_eq] at h
    exact .inr ⟨_, its, n, q, congrArg Value.type h.1, rfl, h.2.1, He.relAll_ok h.2.2⟩
  · cases h
/-! ### two names at once, one of them a cell: by a pair -/
section
variable {X : Cx} {rc : Rc} {a b : Expr} {pos : Pos} {ta tb : TE} {fa fb : MM Sl} {i j : Nat} {x y : Str}
theorem ds_parC {px py pt : Pos} {kt k2 : Nat} {pt2 : Pos} (hc : X.calm = true) (hN : X.N.Nodup) (ha : DV X rc a ta fa) (hb : DV X rc b tb fb) (hij : i ≠ j) (hi : X.N[i]? = some x := by rfl) (hj : X.N[j]? = some y := by rfl)
    (hx : Loc X.env.scope x := by first | exact Or.inl rfl | exact Or.inr rfl) (hy : Loc X.env.scope y := by first | exact Or.inl rfl | exact Or.inr rfl)
    (hfx : X.fn x = true ∨ X.env.scope.names.lookup x = some .local := by first | exact .inl rfl | exact .inr rfl | assumption) (hfy : X.fn y = true ∨ X.env.scope.names.lookup y = some .local := by first | exact .inl rfl | exact .inr rfl | assumption)
    (h1 : starEach [a, b] X.env = (false, eval a X.env) :: starEach [b] X.env := by rfl) (h2 : starEach [b] X.env = (false, eval b X.env) :: starEach [] X.env := by rfl)
    (hs : swapsWithSole [.Tuple [.Name x px, .Name y py] kt pt] (.Tuple [a, b] k2 pt2) pos.line X.env = pure false := by rfl) (hw : swappedStores [.Tuple [.Name x px, .Name y py] kt pt] (.Tuple [a, b] k2 pt2) X.env = pure none := by rfl)
    (h3 : (assignEach [.Tuple [.Name x px, .Name y py] kt pt] X.env).map (·.2) = [assign (.Tuple [.Name x px, .Name y py] kt pt) X.env] := by rfl)
    (h4 : (assignEach [.Name x px, .Name y py] X.env).map (·.2) = assign (.Name x px) X.env :: (assignEach [.Name y py] X.env).map (·.2) := by rfl) (h5 : (assignEach [.Name y py] X.env).map (·.2) = assign (.Name y py) X.env :: (assignEach [] X.env).map (·.2) := by rfl)
    (hn : (assignEach [.Name x px, .Name y py] X.env).length = 2 := by rfl) (hst : (assignEach [.Name x px, .Name y py] X.env).findIdx? (·.1) = none := by rfl) :
    DS X rc (.Assign [.Tuple [.Name x px, .Name y py] kt pt] (.Tuple [a, b] k2 pt2) pos) (tAsg (tTup (tCons ta (tCons tb tNil))) (gTup X.K 2 (gCons (gName i) (gCons (gName j) gNil)))) (gPar i j fa fb) :=
  ⟨ps_asg (pe_tup (pa_cons ha.pe (pa_cons hb.pe pa_nil h2) h1)) (pg_tup hc (pgs_cons (pg_name hN hi hx hfx) (pgs_cons (pg_name hN hj hy hfy) pgs_nil h5) h4) hn hst) hs hw h3, fun Hs0 H0 σ Hs H ρ R oc hf E P => by
  unfold gPar at hf
  cases e1 : fa ρ with
  | none => rw [e1] at hf; cases hf
  | some pr =>
    obtain ⟨xa, r1⟩ := pr
    rw [e1] at hf
    simp only at hf
    cases e2 : fb (ρ.wr r1) with
    | none => rw [e2] at hf; cases hf
    | some pr =>
      obtain ⟨xb, r2⟩ := pr
      rw [e2] at hf
      cases hf
      refine ha.se Hs0 H0 σ Hs H ρ R xa r1 e1 _ fun v Hs1 H1 ex1 w1 p1 => ?_
      have R1 := R.ext' ex1 w1
      refine hb.se Hs0 H0 σ Hs1 H1 _ R1 xb r2 e2 _ fun u Hs2 H2 ex2 w2 p2 => ?_
      refine ⟨by show 2 ≤ sizeLine; decide, fun q0 hq0 => ?_⟩
      have ex3 : Ext rc Hs2 H2 Hs2 (upd H2 q0 (.tup [v, u])) := .newP ex2.s hq0
      have ey2 := ex2.trans ex3
      have z2 := row_new (o := .tup [v, u]) hq0 w2
      have y2 : FrOk X.K H1 Hs2 (upd H2 q0 (.tup [v, u])) u xb := p2.ext (fun p z => R1.ext.d p (R1.rn p z).1) ex3
      refine ⟨q0, [v, u], rfl, .inl (.inl upd_same), rfl, v, [u], rfl, u, [], rfl, rfl, ?_⟩
      generalize upd H2 q0 (.tup [v, u]) = Hy at *
      have nrow : ∀ p, rc.ad = some p → H p ≠ none := fun p z => R.ext.d p (R.rn p z).1
      have p1' := p1.ext nrow ey2
      have R2 : Rel X.K rc Hs0 H0 σ Hs2 Hy (ρ.wr r2) := R1.ext' ey2 z2
      have RA := R2.setV (i := i) (fun p z => R.fresh0 z) p1' (fun ho k hk hik => by
        cases xa with
        | o ds =>
          obtain ⟨q, ws, rfl, hq, _⟩ := p1'
          exact R.notOwn hq k hk
        | _ => exact ho.elim)
      refine P _ Hs2 Hy (ex1.g.trans ey2.g) (RA.setV (i := j) (fun p z => R1.fresh0 z) y2 fun ho k hk hjk => ?_)
      cases xb with
      | o ds =>
        obtain ⟨q, ws, rfl, hq, _⟩ := y2
        by_cases hik : i = k
        · subst hik
          by_cases hil : i < σ.length
          · rw [List.getElem?_set_self hil]
            intro z
            cases z
            cases xa with
            | o da =>
              obtain ⟨q2, ws2, e3, h3, h4, _⟩ := p1
              cases e3
              rw [hq] at h4; cases h4
            | s da =>
              rw [Ev.get_set] at hk
              by_cases hc : i = i ∧ i < (ρ.wr r2).sl.length
              · rw [if_pos hc] at hk; exact hk.elim
              · exact hc ⟨rfl, by rw [← R2.len]; exact hil⟩
            | _ => exact p1.elim
          · rw [List.getElem?_eq_none (by rw [List.length_set]; omega)]; simp
        · rw [List.getElem?_set_ne hik]
          have hk' : ((ρ.wr r2).get k).own := by
            rw [Ev.get_set] at hk
            by_cases hc : i = k ∧ i < (ρ.wr r2).sl.length
            · exact absurd hc.1 hik
            · rw [if_neg hc] at hk; exact hk
          exact R1.notOwn hq k hk'
      | _ => exact ho.elim⟩
end
end DL


namespace PG
open PySem PySem.Spec PyProof.Rows L2 DL
def g_is_int : MS := (gRet (mAndV (mUn (dIsi "int") (mVarB 0)) (mNotV (mUn (dIsi "bool") (mVarB 0)))))
def F_is_int : List D → Option D := runP g_is_int 1 1
def fuel_common : Ev → Nat := fun ρ => match ρ.get 1 with | .s (.int j) => j.natAbs + 1 | _ => 0
def g_common : MS := (gSeq (gPar 0 1 (mBind (mUn dAbs (mVarB 0)) fun d => mRet (.s d)) (mBind (mUn dAbs (mVarB 1)) fun d => mRet (.s d)))
    (gSeq (gWhile fuel_common (mTest (mOp dNe (mVarB 1) (mRet (.int 0)))) (gPar 0 1 (mBind (mVar 1) fun d => mRet (.s d)) (mBind (mOp dMod (mVarB 0) (mVarB 1)) fun d => mRet (.s d))))
    (gRet (mVar 0))))
def F_common : List D → Option D := runP g_common 2 2
def g_fraction : MS := (gSeq (gSet 2 (mBind (mCons (mVar 0) (mCons (mVar 1) (mRet []))) fun ds => mO (F_common (ds ++ []))))
    (gSeq (gPar 0 1 (mBind (mOp dDiv (mVarB 0) (mVarB 2)) fun d => mRet (.s d)) (mBind (mOp dDiv (mVarB 1) (mVarB 2)) fun d => mRet (.s d)))
    (gRet (mIf (mTest (mOp dLt (mVarB 1) (mRet (.int 0)))) (mTup (mCons (mUn dNeg (mVarB 0)) (mCons (mUn dNeg (mVarB 1)) (mRet [])))) (mTup (mCons (mVar 0) (mCons (mVar 1) (mRet []))))))))
def F_fraction : List D → Option D := runP g_fraction 2 3
def g_is_fraction : MS := (gSeq (gIf (mOr (mNot (mTest (mUn (dIsi "tuple") (mVarB 0)))) (mOr (mTest (mOp dNe (mUn dLen (mVarB 0)) (mRet (.int 2)))) (mOr (mNot (mTest (mBind (mCons (mOp dIx (mVarB 0) (mRet (.int 0))) (mRet [])) fun ds => mO (F_is_int (ds ++ []))))) (mNot (mTest (mBind (mCons (mOp dIx (mVarB 0) (mRet (.int 1))) (mRet [])) fun ds => mO (F_is_int (ds ++ [])))))))) (gRet (mRet (.bool false))) gSkip)
    (gRet (mAndV (mOp dGt (mOp dIx (mVarB 0) (mRet (.int 1))) (mRet (.int 0))) (mOp dEq (mBind (mCons (mOp dIx (mVarB 0) (mRet (.int 0))) (mCons (mOp dIx (mVarB 0) (mRet (.int 1))) (mRet []))) fun ds => mO (F_common (ds ++ []))) (mRet (.int 1))))))
def F_is_fraction : List D → Option D := runP g_is_fraction 1 1
def g_plus : MS := (gRet (mBind (mCons (mOp dAddI (mOp dMul (mOp dIx (mVarB 0) (mRet (.int 0))) (mOp dIx (mVarB 1) (mRet (.int 1)))) (mOp dMul (mOp dIx (mVarB 1) (mRet (.int 0))) (mOp dIx (mVarB 0) (mRet (.int 1))))) (mCons (mOp dMul (mOp dIx (mVarB 0) (mRet (.int 1))) (mOp dIx (mVarB 1) (mRet (.int 1)))) (mRet []))) fun ds => mO (F_fraction (ds ++ []))))
def F_plus : List D → Option D := runP g_plus 2 2
def g_less : MS := (gRet (mBind (mCons (mOp dSub (mOp dMul (mOp dIx (mVarB 0) (mRet (.int 0))) (mOp dIx (mVarB 1) (mRet (.int 1)))) (mOp dMul (mOp dIx (mVarB 1) (mRet (.int 0))) (mOp dIx (mVarB 0) (mRet (.int 1))))) (mCons (mOp dMul (mOp dIx (mVarB 0) (mRet (.int 1))) (mOp dIx (mVarB 1) (mRet (.int 1)))) (mRet []))) fun ds => mO (F_fraction (ds ++ []))))
def F_less : List D → Option D := runP g_less 2 2
def g_times : MS := (gRet (mBind (mCons (mOp dMul (mOp dIx (mVarB 0) (mRet (.int 0))) (mOp dIx (mVarB 1) (mRet (.int 0)))) (mCons (mOp dMul (mOp dIx (mVarB 0) (mRet (.int 1))) (mOp dIx (mVarB 1) (mRet (.int 1)))) (mRet []))) fun ds => mO (F_fraction (ds ++ []))))
def F_times : List D → Option D := runP g_times 2 2
def g_over : MS := (gRet (mBind (mCons (mOp dMul (mOp dIx (mVarB 0) (mRet (.int 0))) (mOp dIx (mVarB 1) (mRet (.int 1)))) (mCons (mOp dMul (mOp dIx (mVarB 0) (mRet (.int 1))) (mOp dIx (mVarB 1) (mRet (.int 0)))) (mRet []))) fun ds => mO (F_fraction (ds ++ []))))
def F_over : List D → Option D := runP g_over 2 2
def g_added : MS := (gRet (mBind (mLc [3, 4] (mZip2 (mVarB 0) (mVarB 1)) (gtTup 2 (gtCons (gtName 3) (gtCons (gtName 4) gtNil))) (mRet true) (mBind (mCons (mVar 3) (mCons (mBind (mCons (mVar 2) (mCons (mVar 4) (mRet []))) fun ds => mO (F_times (ds ++ []))) (mRet []))) fun ds => mO (F_plus (ds ++ [])))) fun ds => mRet (.list ds)))
def F_added : List D → Option D := runP g_added 3 5
def g_inner : MS := (gSeq (gSet 2 (mRet (.tuple [.int 0, .int 1])))
    (gSeq (gFor (mZip2 (mVarS 0) (mVarS 1)) (gtTup 2 (gtCons (gtName 3) (gtCons (gtName 4) gtNil))) (gSet 2 (mBind (mCons (mVar 2) (mCons (mBind (mCons (mTup (mCons (mVar 3) (mCons (mRet (.int 1)) (mRet [])))) (mCons (mVar 4) (mRet []))) fun ds => mO (F_times (ds ++ []))) (mRet []))) fun ds => mO (F_plus (ds ++ [])))))
    (gRet (mVar 2))))
def F_inner : List D → Option D := runP g_inner 2 5
def g_solved : MS := (gSeq (gSet 2 (mUn dLen (mVarB 0)))
    (gSeq (gSetO 3 (mLc [4, 9] (mEnum (mVarB 0)) (gtTup 2 (gtCons (gtName 4) (gtCons (gtName 9) gtNil))) (mRet true) (mBind (mLst (mStar (mVarB 9) (mStar (mBind (mLc [10] (mItems (mVarB 1)) (gtName 10) (mRet true) (mOp dIx (mVarB 10) (mVarB 4))) fun ds => mRet (.list ds)) (mRet [])))) fun ds => mRet (.list ds))))
    (gSeq (gFor (mRange1 (mVar 2)) (gtName 4) (gSeq (gSet 5 (mBind (mLc [7] (mRange2 (mVar 4) (mVar 2)) (gtName 7) (mTest (mOp dNe (mOp dIx (mOp dIx (mOp dIx (mVarB 3) (mVarB 7)) (mVarB 4)) (mRet (.int 0))) (mRet (.int 0)))) (mVar 7)) fun ds => mRet (.list ds)))
    (gSeq (gIf (mTest (mOp dEq (mVarB 5) (mBind (mLst (mRet [])) fun ds => mRet (.list ds)))) (gRet (mRet .none)) gSkip)
    (gSeq (gAsg (mTup (mCons (mOp dIx (mVarB 3) (mOp dIx (mVarB 5) (mRet (.int 0)))) (mCons (mOp dIx (mVarB 3) (mVarB 4)) (mRet [])))) (gtTup 2 (gtCons (gtSub 3 (mVar 4)) (gtCons (gtSub 3 (mOp dIx (mVarB 5) (mRet (.int 0)))) gtNil))))
    (gSeq (gSet 6 (mOp dIx (mOp dIx (mVarB 3) (mVarB 4)) (mVarB 4)))
    (gSeq (gAsg (mBind (mLc [11] (mItems (mOp dIx (mVarB 3) (mVarB 4))) (gtName 11) (mRet true) (mBind (mCons (mVar 11) (mCons (mVar 6) (mRet []))) fun ds => mO (F_over (ds ++ [])))) fun ds => mRet (.list ds)) (gtSub 3 (mVar 4)))
    (gFor (mRange1 (mVar 2)) (gtName 7) (gIf (mAnd (mTest (mOp dNe (mVarB 7) (mVarB 4))) (mTest (mOp dNe (mOp dIx (mOp dIx (mOp dIx (mVarB 3) (mVarB 7)) (mVarB 4)) (mRet (.int 0))) (mRet (.int 0))))) (gSeq (gSet 8 (mTup (mCons (mUn dNeg (mOp dIx (mOp dIx (mOp dIx (mVarB 3) (mVarB 7)) (mVarB 4)) (mRet (.int 0)))) (mCons (mOp dIx (mOp dIx (mOp dIx (mVarB 3) (mVarB 7)) (mVarB 4)) (mRet (.int 1))) (mRet [])))))
    (gAsg (mBind (mCons (mOp dIx (mVarB 3) (mVarB 7)) (mCons (mOp dIx (mVarB 3) (mVarB 4)) (mCons (mVar 8) (mRet [])))) fun ds => mO (F_added (ds ++ []))) (gtSub 3 (mVar 7)))) gSkip))))))))
    (gRet (mBind (mLc [7] (mRange1 (mUn dLen (mVarB 1))) (gtName 7) (mRet true) (mBind (mLc [12] (mItems (mVarB 3)) (gtName 12) (mRet true) (mOp dIx (mVarB 12) (mOp dAddI (mVarB 2) (mVarB 7)))) fun ds => mRet (.list ds))) fun ds => mRet (.list ds))))))
def F_solved : List D → Option D := runP g_solved 2 13
def g_is_above : MS := (gSeq (gSetO 1 (mLc [5] (mItems (mVarB 0)) (gtName 5) (mRet true) (mBind (mLc [6] (mItems (mVarB 5)) (gtName 6) (mRet true) (mTup (mCons (mVar 6) (mCons (mRet (.int 1)) (mRet []))))) fun ds => mRet (.list ds))))
    (gSeq (gFor (mRange1 (mUn dLen (mVarB 1))) (gtName 2) (gSeq (gIf (mTest (mOp dLe (mOp dIx (mOp dIx (mOp dIx (mVarB 1) (mVarB 2)) (mVarB 2)) (mRet (.int 0))) (mRet (.int 0)))) (gRet (mRet (.bool false))) gSkip)
    (gFor (mRange2 (mOp dAddI (mVarB 2) (mRet (.int 1))) (mUn dLen (mVarB 1))) (gtName 3) (gSeq (gSet 4 (mBind (mCons (mOp dIx (mOp dIx (mVarB 1) (mVarB 3)) (mVarB 2)) (mCons (mOp dIx (mOp dIx (mVarB 1) (mVarB 2)) (mVarB 2)) (mRet []))) fun ds => mO (F_over (ds ++ []))))
    (gAsg (mBind (mCons (mOp dIx (mVarB 1) (mVarB 3)) (mCons (mOp dIx (mVarB 1) (mVarB 2)) (mCons (mTup (mCons (mUn dNeg (mOp dIx (mVarB 4) (mRet (.int 0)))) (mCons (mOp dIx (mVarB 4) (mRet (.int 1))) (mRet [])))) (mRet [])))) fun ds => mO (F_added (ds ++ []))) (gtSub 1 (mVar 3)))))))
    (gRet (mRet (.bool true)))))
def F_is_above : List D → Option D := runP g_is_above 1 7
def g_is_small : MS := (gRet (mAndV (mBind (mCons (mVar 0) (mRet [])) fun ds => mO (F_is_int (ds ++ []))) (mChain dLe dLe (mUn dNeg (mRet (.int 1000))) (mVarB 0) (mRet (.int 1000)))))
def F_is_small : List D → Option D := runP g_is_small 1 1
def g_is_row : MS := (gRet (mAndV (mUn (dIsi "tuple") (mVarB 0)) (mAndV (mOp dEq (mUn dLen (mVarB 0)) (mVarB 1)) (mUn dAll (mBind (mLc [2] (mItems (mVarB 0)) (gtName 2) (mRet true) (mBind (mCons (mVar 2) (mRet [])) fun ds => mO (F_is_small (ds ++ [])))) fun ds => mRet (.list ds))))))
def F_is_row : List D → Option D := runP g_is_row 2 3
def g_is_turned : MS := (gRet (mOp dEq (mVarB 0) (mUn dTupOf (mBind (mLc [1] (mRange1 (mUn dLen (mVarB 0))) (gtName 1) (mRet true) (mUn dTupOf (mBind (mLc [2] (mItems (mVarB 0)) (gtName 2) (mRet true) (mOp dIx (mVarB 2) (mVarB 1))) fun ds => mRet (.list ds)))) fun ds => mRet (.list ds)))))
def F_is_turned : List D → Option D := runP g_is_turned 1 3
def g_is_task_row : MS := (gSeq (gIf (mOr (mNot (mTest (mUn (dIsi "tuple") (mVarB 0)))) (mTest (mOp dNe (mUn dLen (mVarB 0)) (mRet (.int 3))))) (gRet (mRet (.bool false))) gSkip)
    (gRet (mAndV (mBind (mCons (mOp dIx (mVarB 0) (mRet (.int 0))) (mCons (mVar 1) (mRet []))) fun ds => mO (F_is_row (ds ++ []))) (mAndV (mBind (mCons (mOp dIx (mVarB 0) (mRet (.int 1))) (mRet [])) fun ds => mO (F_is_small (ds ++ []))) (mBind (mCons (mOp dIx (mVarB 0) (mRet (.int 2))) (mRet [])) fun ds => mO (F_is_small (ds ++ [])))))))
def F_is_task_row : List D → Option D := runP g_is_task_row 2 2
def g_need_task : MS := (gSeq (gIf (mOr (mNot (mTest (mUn (dIsi "tuple") (mVarB 0)))) (mTest (mOp dNe (mUn dLen (mVarB 0)) (mRet (.int 4))))) gNone gSkip)
    (gSeq (gAsg (mVar 0) (gtTup 4 (gtCons (gtName 1) (gtCons (gtName 2) (gtCons (gtName 3) (gtCons (gtName 4) gtNil))))))
    (gSeq (gIf (mOr (mNot (mTest (mUn (dIsi "tuple") (mVarB 1)))) (mNot (mTest (mChain dLe dLe (mRet (.int 1)) (mUn dLen (mVarB 1)) (mRet (.int 4)))))) gNone gSkip)
    (gSeq (gSet 5 (mUn dLen (mVarB 1)))
    (gSeq (gIf (mOr (mNot (mTest (mUn dAll (mBind (mLc [6] (mItems (mVarB 1)) (gtName 6) (mRet true) (mBind (mCons (mVar 6) (mCons (mVar 5) (mRet []))) fun ds => mO (F_is_row (ds ++ [])))) fun ds => mRet (.list ds))))) (mOr (mNot (mTest (mBind (mCons (mVar 1) (mRet [])) fun ds => mO (F_is_turned (ds ++ []))))) (mNot (mTest (mBind (mCons (mVar 1) (mRet [])) fun ds => mO (F_is_above (ds ++ []))))))) gNone gSkip)
    (gSeq (gIf (mNot (mTest (mBind (mCons (mVar 2) (mCons (mVar 5) (mRet []))) fun ds => mO (F_is_row (ds ++ []))))) gNone gSkip)
    (gSeq (gIf (mNot (mTest (mBind (mCons (mVar 3) (mCons (mVar 5) (mRet []))) fun ds => mO (F_is_row (ds ++ []))))) gNone gSkip)
    (gIf (mOr (mNot (mTest (mUn (dIsi "tuple") (mVarB 4)))) (mOr (mTest (mOp dGt (mUn dLen (mVarB 4)) (mRet (.int 8)))) (mNot (mTest (mUn dAll (mBind (mLc [6] (mItems (mVarB 4)) (gtName 6) (mRet true) (mBind (mCons (mVar 6) (mCons (mVar 5) (mRet []))) fun ds => mO (F_is_task_row (ds ++ [])))) fun ds => mRet (.list ds))))))) gNone gSkip))))))))
def F_need_task : List D → Option D := runP g_need_task 1 7
def g_need_share : MS := (gIf (mNot (mTest (mBind (mCons (mVar 0) (mRet [])) fun ds => mO (F_is_fraction (ds ++ []))))) gNone gSkip)
def F_need_share : List D → Option D := runP g_need_share 1 1
def g_need_plan : MS := (gIf (mOr (mNot (mTest (mUn (dIsi "tuple") (mVarB 0)))) (mOr (mTest (mOp dNe (mUn dLen (mVarB 0)) (mVarB 1))) (mNot (mTest (mUn dAll (mBind (mLc [2] (mItems (mVarB 0)) (gtName 2) (mRet true) (mBind (mCons (mVar 2) (mRet [])) fun ds => mO (F_is_fraction (ds ++ [])))) fun ds => mRet (.list ds))))))) gNone gSkip)
def F_need_plan : List D → Option D := runP g_need_plan 2 3
def g_costs_at : MS := (gRet (mBind (mLc [2, 3] (mZip2 (mOp dIx (mVarB 0) (mRet (.int 1))) (mOp dIx (mVarB 0) (mRet (.int 2)))) (gtTup 2 (gtCons (gtName 2) (gtCons (gtName 3) gtNil))) (mRet true) (mBind (mCons (mTup (mCons (mVar 2) (mCons (mRet (.int 1)) (mRet [])))) (mCons (mBind (mCons (mTup (mCons (mVar 3) (mCons (mRet (.int 1)) (mRet [])))) (mCons (mVar 1) (mRet []))) fun ds => mO (F_times (ds ++ []))) (mRet []))) fun ds => mO (F_plus (ds ++ [])))) fun ds => mRet (.list ds)))
def F_costs_at : List D → Option D := runP g_costs_at 2 4
def g_rights_at : MS := (gRet (mBind (mLc [2] (mItems (mOp dIx (mVarB 0) (mRet (.int 3)))) (gtName 2) (mRet true) (mBind (mCons (mTup (mCons (mOp dIx (mVarB 2) (mRet (.int 1))) (mCons (mRet (.int 1)) (mRet [])))) (mCons (mBind (mCons (mTup (mCons (mOp dIx (mVarB 2) (mRet (.int 2))) (mCons (mRet (.int 1)) (mRet [])))) (mCons (mVar 1) (mRet []))) fun ds => mO (F_times (ds ++ []))) (mRet []))) fun ds => mO (F_plus (ds ++ [])))) fun ds => mRet (.list ds)))
def F_rights_at : List D → Option D := runP g_rights_at 2 3
def g_slope_of : MS := (gRet (mBind (mCons (mBind (mLc [3] (mItems (mOp dIx (mVarB 0) (mRet (.int 0)))) (gtName 3) (mRet true) (mBind (mCons (mVar 3) (mCons (mVar 2) (mRet []))) fun ds => mO (F_inner (ds ++ [])))) fun ds => mRet (.list ds)) (mCons (mBind (mCons (mVar 0) (mCons (mVar 1) (mRet []))) fun ds => mO (F_costs_at (ds ++ []))) (mRet []))) fun ds => mO (F_added (ds ++ [(.tuple [.int 1, .int 1])]))))
def F_slope_of : List D → Option D := runP g_slope_of 3 4
def g_worth_of : MS := (gSeq (gSet 3 (mRet (.tuple [.int 0, .int 1])))
    (gSeq (gFor (mZip3 (mVarS 2) (mOp dIx (mVarB 0) (mRet (.int 0))) (mBind (mCons (mVar 0) (mCons (mVar 1) (mRet []))) fun ds => mO (F_costs_at (ds ++ [])))) (gtTup 3 (gtCons (gtName 4) (gtCons (gtName 5) (gtCons (gtName 6) gtNil)))) (gSet 3 (mBind (mCons (mVar 3) (mCons (mBind (mCons (mVar 4) (mCons (mBind (mCons (mBind (mCons (mBind (mCons (mVar 5) (mCons (mVar 2) (mRet []))) fun ds => mO (F_inner (ds ++ []))) (mCons (mTup (mCons (mRet (.int 2)) (mCons (mRet (.int 1)) (mRet [])))) (mRet []))) fun ds => mO (F_over (ds ++ []))) (mCons (mVar 6) (mRet []))) fun ds => mO (F_plus (ds ++ []))) (mRet []))) fun ds => mO (F_times (ds ++ []))) (mRet []))) fun ds => mO (F_plus (ds ++ [])))))
    (gRet (mVar 3))))
def F_worth_of : List D → Option D := runP g_worth_of 3 7
def g_gaps_of : MS := (gRet (mBind (mLc [3, 4] (mZip2 (mOp dIx (mVarB 0) (mRet (.int 3))) (mBind (mCons (mVar 0) (mCons (mVar 1) (mRet []))) fun ds => mO (F_rights_at (ds ++ [])))) (gtTup 2 (gtCons (gtName 3) (gtCons (gtName 4) gtNil))) (mRet true) (mBind (mCons (mBind (mCons (mOp dIx (mVarB 3) (mRet (.int 0))) (mCons (mVar 2) (mRet []))) fun ds => mO (F_inner (ds ++ []))) (mCons (mVar 4) (mRet []))) fun ds => mO (F_less (ds ++ [])))) fun ds => mRet (.list ds)))
def F_gaps_of : List D → Option D := runP g_gaps_of 3 5
def g_keeps : MS := (gRet (mUn dAll (mBind (mLc [3] (mItems (mBind (mCons (mVar 0) (mCons (mVar 1) (mCons (mVar 2) (mRet [])))) fun ds => mO (F_gaps_of (ds ++ [])))) (gtName 3) (mRet true) (mOp dGe (mOp dIx (mVarB 3) (mRet (.int 0))) (mRet (.int 0)))) fun ds => mRet (.list ds))))
def F_keeps : List D → Option D := runP g_keeps 3 4
def g_sum_of_rows : MS := (gSeq (gSet 2 (mBind (mOpF dRep (mBind (mLst (mCons (mRet (.tuple [.int 0, .int 1])) (mRet []))) fun ds => mRet (.list ds)) (mUn dLen (mOp dIx (mVarB 0) (mRet (.int 0))))) fun ds => mRet (.list ds)))
    (gSeq (gFor (mZip2 (mOp dIx (mVarB 0) (mRet (.int 3))) (mVarS 1)) (gtTup 2 (gtCons (gtName 3) (gtCons (gtName 4) gtNil))) (gSet 2 (mBind (mCons (mVar 2) (mCons (mBind (mLc [5] (mItems (mOp dIx (mVarB 3) (mRet (.int 0)))) (gtName 5) (mRet true) (mTup (mCons (mVar 5) (mCons (mRet (.int 1)) (mRet []))))) fun ds => mRet (.list ds)) (mCons (mVar 4) (mRet [])))) fun ds => mO (F_added (ds ++ [])))))
    (gRet (mVar 2))))
def F_sum_of_rows : List D → Option D := runP g_sum_of_rows 2 6
def g_shows_of : MS := (gSeq (gSet 4 (mBind (mCons (mVar 0) (mCons (mVar 1) (mCons (mVar 2) (mRet [])))) fun ds => mO (F_gaps_of (ds ++ []))))
    (gSeq (gFor (mZip2 (mVarS 4) (mVarS 3)) (gtTup 2 (gtCons (gtName 5) (gtCons (gtName 6) gtNil))) (gIf (mOr (mTest (mOp dLt (mOp dIx (mVarB 5) (mRet (.int 0))) (mRet (.int 0)))) (mOr (mTest (mOp dLt (mOp dIx (mVarB 6) (mRet (.int 0))) (mRet (.int 0)))) (mAnd (mTest (mOp dGt (mOp dIx (mVarB 6) (mRet (.int 0))) (mRet (.int 0)))) (mTest (mOp dGt (mOp dIx (mVarB 5) (mRet (.int 0))) (mRet (.int 0))))))) (gRet (mRet (.bool false))) gSkip))
    (gRet (mOp dEq (mBind (mCons (mVar 0) (mCons (mVar 1) (mCons (mVar 2) (mRet [])))) fun ds => mO (F_slope_of (ds ++ []))) (mBind (mCons (mVar 0) (mCons (mVar 3) (mRet []))) fun ds => mO (F_sum_of_rows (ds ++ [])))))))
def F_shows_of : List D → Option D := runP g_shows_of 4 7
def g_promise_of : MS := (gSeq (gSet 3 (mBind (mCons (mBind (mCons (mVar 0) (mCons (mVar 2) (mRet []))) fun ds => mO (F_sum_of_rows (ds ++ []))) (mCons (mBind (mCons (mVar 0) (mCons (mVar 1) (mRet []))) fun ds => mO (F_costs_at (ds ++ []))) (mCons (mTup (mCons (mUn dNeg (mRet (.int 1))) (mCons (mRet (.int 1)) (mRet [])))) (mRet [])))) fun ds => mO (F_added (ds ++ []))))
    (gSeq (gSet 4 (mOp dIx (mBind (mCons (mBind (mLc [10] (mItems (mOp dIx (mVarB 0) (mRet (.int 0)))) (gtName 10) (mRet true) (mBind (mLc [6] (mItems (mVarB 10)) (gtName 6) (mRet true) (mTup (mCons (mVar 6) (mCons (mRet (.int 1)) (mRet []))))) fun ds => mRet (.list ds))) fun ds => mRet (.list ds)) (mCons (mBind (mLst (mCons (mVar 3) (mRet []))) fun ds => mRet (.list ds)) (mRet []))) fun ds => mO (F_solved (ds ++ []))) (mRet (.int 0))))
    (gSeq (gSet 5 (mRet (.tuple [.int 0, .int 1])))
    (gSeq (gFor (mZip2 (mVarS 3) (mVarS 4)) (gtTup 2 (gtCons (gtName 6) (gtCons (gtName 7) gtNil))) (gSet 5 (mBind (mCons (mVar 5) (mCons (mBind (mCons (mBind (mCons (mVar 6) (mCons (mVar 7) (mRet []))) fun ds => mO (F_times (ds ++ []))) (mCons (mTup (mCons (mRet (.int 2)) (mCons (mRet (.int 1)) (mRet [])))) (mRet []))) fun ds => mO (F_over (ds ++ []))) (mRet []))) fun ds => mO (F_less (ds ++ [])))))
    (gSeq (gFor (mZip2 (mBind (mCons (mVar 0) (mCons (mVar 1) (mRet []))) fun ds => mO (F_rights_at (ds ++ []))) (mVarS 2)) (gtTup 2 (gtCons (gtName 8) (gtCons (gtName 9) gtNil))) (gSet 5 (mBind (mCons (mVar 5) (mCons (mBind (mCons (mVar 8) (mCons (mVar 9) (mRet []))) fun ds => mO (F_times (ds ++ []))) (mRet []))) fun ds => mO (F_plus (ds ++ [])))))
    (gRet (mVar 5)))))))
def F_promise_of : List D → Option D := runP g_promise_of 3 11
def g_need_both : MS := (gSeq (gDrop (mBind (mCons (mVar 0) (mRet [])) fun ds => mO (F_need_task (ds ++ []))))
    (gDrop (mBind (mCons (mVar 1) (mRet [])) fun ds => mO (F_need_share (ds ++ [])))))
def F_need_both : List D → Option D := runP g_need_both 2 2
def g_worth : MS := (gSeq (gDrop (mBind (mCons (mVar 0) (mCons (mVar 1) (mRet []))) fun ds => mO (F_need_both (ds ++ []))))
    (gSeq (gDrop (mBind (mCons (mVar 2) (mCons (mUn dLen (mOp dIx (mVarB 0) (mRet (.int 0)))) (mRet []))) fun ds => mO (F_need_plan (ds ++ []))))
    (gRet (mBind (mCons (mVar 0) (mCons (mVar 1) (mCons (mVar 2) (mRet [])))) fun ds => mO (F_worth_of (ds ++ []))))))
def F_worth : List D → Option D := runP g_worth 3 3
def g_is_kept : MS := (gSeq (gDrop (mBind (mCons (mVar 0) (mCons (mVar 1) (mRet []))) fun ds => mO (F_need_both (ds ++ []))))
    (gSeq (gDrop (mBind (mCons (mVar 2) (mCons (mUn dLen (mOp dIx (mVarB 0) (mRet (.int 0)))) (mRet []))) fun ds => mO (F_need_plan (ds ++ []))))
    (gRet (mBind (mCons (mVar 0) (mCons (mVar 1) (mCons (mVar 2) (mRet [])))) fun ds => mO (F_keeps (ds ++ []))))))
def F_is_kept : List D → Option D := runP g_is_kept 3 3
def g_shows : MS := (gSeq (gDrop (mBind (mCons (mVar 0) (mCons (mVar 1) (mRet []))) fun ds => mO (F_need_both (ds ++ []))))
    (gSeq (gDrop (mBind (mCons (mVar 2) (mCons (mUn dLen (mOp dIx (mVarB 0) (mRet (.int 0)))) (mRet []))) fun ds => mO (F_need_plan (ds ++ []))))
    (gSeq (gDrop (mBind (mCons (mVar 3) (mCons (mUn dLen (mOp dIx (mVarB 0) (mRet (.int 3)))) (mRet []))) fun ds => mO (F_need_plan (ds ++ []))))
    (gRet (mBind (mCons (mVar 0) (mCons (mVar 1) (mCons (mVar 2) (mCons (mVar 3) (mRet []))))) fun ds => mO (F_shows_of (ds ++ [])))))))
def F_shows : List D → Option D := runP g_shows 4 4
def g_promise : MS := (gSeq (gDrop (mBind (mCons (mVar 0) (mCons (mVar 1) (mRet []))) fun ds => mO (F_need_both (ds ++ []))))
    (gSeq (gDrop (mBind (mCons (mVar 2) (mCons (mUn dLen (mOp dIx (mVarB 0) (mRet (.int 3)))) (mRet []))) fun ds => mO (F_need_plan (ds ++ []))))
    (gSeq (gIf (mTest (mUn dAny (mBind (mLc [3] (mItems (mVarB 2)) (gtName 3) (mRet true) (mOp dLt (mOp dIx (mVarB 3) (mRet (.int 0))) (mRet (.int 0)))) fun ds => mRet (.list ds)))) (gRet (mRet .none)) gSkip)
    (gRet (mBind (mCons (mVar 0) (mCons (mVar 1) (mCons (mVar 2) (mRet [])))) fun ds => mO (F_promise_of (ds ++ [])))))))
def F_promise : List D → Option D := runP g_promise 3 4
def g_bars : MS := (gSeq (gDrop (mBind (mCons (mVar 0) (mCons (mVar 1) (mRet []))) fun ds => mO (F_need_both (ds ++ []))))
    (gSeq (gDrop (mBind (mCons (mVar 2) (mCons (mUn dLen (mOp dIx (mVarB 0) (mRet (.int 3)))) (mRet []))) fun ds => mO (F_need_plan (ds ++ []))))
    (gSeq (gIf (mOr (mTest (mUn dAny (mBind (mLc [6] (mItems (mVarB 2)) (gtName 6) (mRet true) (mOp dLt (mOp dIx (mVarB 6) (mRet (.int 0))) (mRet (.int 0)))) fun ds => mRet (.list ds)))) (mTest (mUn dAny (mBind (mLc [6] (mItems (mBind (mCons (mVar 0) (mCons (mVar 2) (mRet []))) fun ds => mO (F_sum_of_rows (ds ++ [])))) (gtName 6) (mRet true) (mOp dNe (mOp dIx (mVarB 6) (mRet (.int 0))) (mRet (.int 0)))) fun ds => mRet (.list ds))))) (gRet (mRet (.bool false))) gSkip)
    (gSeq (gSet 3 (mRet (.tuple [.int 0, .int 1])))
    (gSeq (gFor (mZip2 (mBind (mCons (mVar 0) (mCons (mVar 1) (mRet []))) fun ds => mO (F_rights_at (ds ++ []))) (mVarS 2)) (gtTup 2 (gtCons (gtName 4) (gtCons (gtName 5) gtNil))) (gSet 3 (mBind (mCons (mVar 3) (mCons (mBind (mCons (mVar 4) (mCons (mVar 5) (mRet []))) fun ds => mO (F_times (ds ++ []))) (mRet []))) fun ds => mO (F_plus (ds ++ [])))))
    (gRet (mOp dGt (mOp dIx (mVarB 3) (mRet (.int 0))) (mRet (.int 0)))))))))
def F_bars : List D → Option D := runP g_bars 3 7
def g_law_taken : MS := (gSeq (gIf (mTest (mOp dGt (mRowI 0 3) (mRet (.int 0)))) (gSeq (gSet 2 (mOp dMod (mUn dInt (mRowI 0 3)) (mVarB 1)))
    (gSeq (gRowSet 0 3 (mOp dDiv (mRowI 0 3) (mVarB 1)))
    (gRet (mVar 2)))) gSkip)
    (gSeq (gRowSet 0 1 (mOp dAddI (mRowI 0 1) (mRet (.int 1))))
    (gSeq (gIf (mTest (mOp dGt (mRowI 0 1) (mRowLen 0))) (gSeq (gRowSet 0 2 (mOp dMod (mUn dInt (mOp dAddI (mOp dMul (mRowI 0 2) (mRet (.int 48271))) (mRet (.int 11)))) (mRet (.int 2147483647))))
    (gRet (mOp dMod (mUn dInt (mOp dDiv (mRowI 0 2) (mRet (.int 7)))) (mVarB 1)))) gSkip)
    (gSeq (gSet 3 (mRowCell 0 (mOp dSub (mRowI 0 1) (mRet (.int 1)))))
    (gSeq (gRowSet 0 2 (mOp dMod (mUn dInt (mOp dAddI (mOp dAddI (mOp dMul (mRowI 0 2) (mRet (.int 48271))) (mVarB 3)) (mRet (.int 11)))) (mRet (.int 2147483647))))
    (gSeq (gIf (mTest (mOp dGe (mVarB 3) (mOp dPow (mRet (.int 10)) (mRet (.int 18))))) (gRowSet 0 3 (mOp dDiv (mVarB 3) (mVarB 1))) gSkip)
    (gRet (mOp dMod (mUn dInt (mVarB 3)) (mVarB 1)))))))))
def F_law_taken : List Sl → DL.Row → Option (D × DL.Row) := runDef g_law_taken 2 4
def g_law_alike (F_law_alike : List D → Option D) : MS := (gSeq (gIf (mTest (mUn dIsiTL (mVarB 1))) (gSeq (gIf (mOr (mNot (mTest (mUn dIsiTL (mVarB 0)))) (mTest (mOp dNe (mUn (dIsi "list") (mVarB 0)) (mUn (dIsi "list") (mVarB 1))))) (gRet (mRet (.bool false))) gSkip)
    (gSeq (gIf (mTest (mOp dNe (mUn dLen (mVarB 0)) (mUn dLen (mVarB 1)))) (gRet (mRet (.bool false))) gSkip)
    (gRet (mOp dEq (mBind (mLc [2] (mRange1 (mUn dLen (mVarB 1))) (gtName 2) (mNot (mTest (mBind (mCons (mOp dIx (mVarB 0) (mVarB 2)) (mCons (mOp dIx (mVarB 1) (mVarB 2)) (mRet []))) fun ds => mO (F_law_alike (ds ++ []))))) (mVar 2)) fun ds => mRet (.list ds)) (mBind (mLst (mRet [])) fun ds => mRet (.list ds)))))) gSkip)
    (gSeq (gIf (mOr (mTest (mUn (fun d => some (.bool (dIsN d))) (mVarB 1))) (mTest (mUn (dIsi "str") (mVarB 1)))) (gRet (mAndV (mOp dEq (mVarB 0) (mVarB 1)) (mOp dEq (mUn (dIsi "str") (mVarB 0)) (mUn (dIsi "str") (mVarB 1))))) gSkip)
    (gRet (mAndV (mUn (dIsi "int") (mVarB 0)) (mAndV (mOp dEq (mUn (dIsi "bool") (mVarB 0)) (mUn (dIsi "bool") (mVarB 1))) (mOp dEq (mVarB 0) (mVarB 1)))))))
def F_law_alike_ : Nat → List D → Option D
  | 0 => fun _ => none
  | k + 1 => runP (g_law_alike (F_law_alike_ k)) 2 3
def F_law_alike : List D → Option D := F_law_alike_ 8
def g_law_is : MS := (gRet (mAndV (mUn (dIsi "bool") (mVarB 0)) (mOp dEq (mVarB 0) (mVarB 1))))
def F_law_is : List D → Option D := runP g_law_is 2 2
def fuel_law_fr : Ev → Nat := fun ρ => match ρ.get 3 with | .s (.int j) => j.natAbs + 1 | _ => 0
def g_law_fr : MS := (gSeq (gPar 2 3 (mBind (mOp dMax2 (mVarB 0) (mOp dSub (mRet (.int 0)) (mVarB 0))) fun d => mRet (.s d)) (mBind (mOp dMax2 (mVarB 1) (mOp dSub (mRet (.int 0)) (mVarB 1))) fun d => mRet (.s d)))
    (gSeq (gWhile fuel_law_fr (mTest (mOp dNe (mVarB 3) (mRet (.int 0)))) (gPar 2 3 (mBind (mVar 3) fun d => mRet (.s d)) (mBind (mOp dMod (mVarB 2) (mVarB 3)) fun d => mRet (.s d))))
    (gSeq (gSet 2 (mIf (mTest (mOp dGt (mVarB 1) (mRet (.int 0)))) (mVar 2) (mOp dSub (mRet (.int 0)) (mVarB 2))))
    (gRet (mTup (mCons (mOp dDiv (mVarB 0) (mVarB 2)) (mCons (mOp dDiv (mVarB 1) (mVarB 2)) (mRet []))))))))
def F_law_fr : List D → Option D := runP g_law_fr 2 4
def g_law_plus : MS := (gRet (mBind (mCons (mOp dAddI (mOp dMul (mOp dIx (mVarB 0) (mRet (.int 0))) (mOp dIx (mVarB 1) (mRet (.int 1)))) (mOp dMul (mOp dIx (mVarB 1) (mRet (.int 0))) (mOp dIx (mVarB 0) (mRet (.int 1))))) (mCons (mOp dMul (mOp dIx (mVarB 0) (mRet (.int 1))) (mOp dIx (mVarB 1) (mRet (.int 1)))) (mRet []))) fun ds => mO (F_law_fr (ds ++ []))))
def F_law_plus : List D → Option D := runP g_law_plus 2 2
def g_law_times : MS := (gRet (mBind (mCons (mOp dMul (mOp dIx (mVarB 0) (mRet (.int 0))) (mOp dIx (mVarB 1) (mRet (.int 0)))) (mCons (mOp dMul (mOp dIx (mVarB 0) (mRet (.int 1))) (mOp dIx (mVarB 1) (mRet (.int 1)))) (mRet []))) fun ds => mO (F_law_fr (ds ++ []))))
def F_law_times : List D → Option D := runP g_law_times 2 2
def g_law_below : MS := (gRet (mOp dLt (mOp dMul (mOp dIx (mVarB 0) (mRet (.int 0))) (mOp dIx (mVarB 1) (mRet (.int 1)))) (mOp dMul (mOp dIx (mVarB 1) (mRet (.int 0))) (mOp dIx (mVarB 0) (mRet (.int 1))))))
def F_law_below : List D → Option D := runP g_law_below 2 2
def g_law_number : MS := (gRet (mOp dSub (mCallG F_law_taken (mConsRow 0 (mConsS (mOp dAddI (mOp dMul (mRet (.int 2)) (mVarB 1)) (mRet (.int 1))) (mRet [])))) (mVarB 1)))
def F_law_number : List Sl → DL.Row → Option (D × DL.Row) := runDef g_law_number 2 2
def g_law_solved : MS := (gSeq (gSet 2 (mUn dLen (mVarB 0)))
    (gSeq (gSetO 3 (mLc [4] (mRange1 (mVar 2)) (gtName 4) (mRet true) (mBind (mLc [9] (mItems (mBind (mOpF dCat (mBind (mBind (mOp dIx (mVarB 0) (mVarB 4)) fun d => mO (dItems d)) fun ds => mRet (.list ds)) (mBind (mLst (mCons (mOp dIx (mVarB 1) (mVarB 4)) (mRet []))) fun ds => mRet (.list ds))) fun ds => mRet (.list ds))) (gtName 9) (mRet true) (mTup (mCons (mVar 9) (mCons (mRet (.int 1)) (mRet []))))) fun ds => mRet (.list ds))))
    (gSeq (gFor (mRange1 (mVar 2)) (gtName 4) (gSeq (gSet 5 (mBind (mLc [7] (mRange2 (mVar 4) (mVar 2)) (gtName 7) (mTest (mOp dNe (mOp dIx (mOp dIx (mOp dIx (mVarB 3) (mVarB 7)) (mVarB 4)) (mRet (.int 0))) (mRet (.int 0)))) (mVar 7)) fun ds => mRet (.list ds)))
    (gSeq (gIf (mTest (mOp dEq (mVarB 5) (mBind (mLst (mRet [])) fun ds => mRet (.list ds)))) (gRet (mRet .none)) gSkip)
    (gSeq (gSet 6 (mOp dIx (mVarB 3) (mOp dIx (mVarB 5) (mRet (.int 0)))))
    (gSeq (gAsg (mOp dIx (mVarB 3) (mVarB 4)) (gtSub 3 (mOp dIx (mVarB 5) (mRet (.int 0)))))
    (gSeq (gSet 6 (mBind (mLc [9] (mItems (mVarB 6)) (gtName 9) (mRet true) (mBind (mCons (mVar 9) (mCons (mBind (mCons (mOp dIx (mOp dIx (mVarB 6) (mVarB 4)) (mRet (.int 1))) (mCons (mOp dIx (mOp dIx (mVarB 6) (mVarB 4)) (mRet (.int 0))) (mRet []))) fun ds => mO (F_law_fr (ds ++ []))) (mRet []))) fun ds => mO (F_law_times (ds ++ [])))) fun ds => mRet (.list ds)))
    (gSeq (gAsg (mVar 6) (gtSub 3 (mVar 4)))
    (gFor (mRange1 (mVar 2)) (gtName 7) (gIf (mTest (mOp dNe (mVarB 7) (mVarB 4))) (gSeq (gSet 8 (mTup (mCons (mOp dSub (mRet (.int 0)) (mOp dIx (mOp dIx (mOp dIx (mVarB 3) (mVarB 7)) (mVarB 4)) (mRet (.int 0)))) (mCons (mOp dIx (mOp dIx (mOp dIx (mVarB 3) (mVarB 7)) (mVarB 4)) (mRet (.int 1))) (mRet [])))))
    (gAsg (mBind (mLc [10] (mRange1 (mOp dAddI (mVarB 2) (mRet (.int 1)))) (gtName 10) (mRet true) (mBind (mCons (mOp dIx (mOp dIx (mVarB 3) (mVarB 7)) (mVarB 10)) (mCons (mBind (mCons (mVar 8) (mCons (mOp dIx (mVarB 6) (mVarB 10)) (mRet []))) fun ds => mO (F_law_times (ds ++ []))) (mRet []))) fun ds => mO (F_law_plus (ds ++ [])))) fun ds => mRet (.list ds)) (gtSub 3 (mVar 7)))) gSkip)))))))))
    (gRet (mBind (mLc [11] (mItems (mVarB 3)) (gtName 11) (mRet true) (mOp dIx (mVarB 11) (mVarB 2))) fun ds => mRet (.list ds))))))
def F_law_solved : List D → Option D := runP g_law_solved 2 12
def g_law_less : MS := (gRet (mBind (mCons (mVar 0) (mCons (mTup (mCons (mOp dSub (mRet (.int 0)) (mOp dIx (mVarB 1) (mRet (.int 0)))) (mCons (mOp dIx (mVarB 1) (mRet (.int 1))) (mRet [])))) (mRet []))) fun ds => mO (F_law_plus (ds ++ []))))
def F_law_less : List D → Option D := runP g_law_less 2 2
def g_law_inner : MS := (gSeq (gSet 2 (mTup (mCons (mRet (.int 0)) (mCons (mRet (.int 1)) (mRet [])))))
    (gSeq (gFor (mRange1 (mUn dLen (mVarB 0))) (gtName 3) (gSet 2 (mBind (mCons (mVar 2) (mCons (mBind (mCons (mTup (mCons (mOp dIx (mVarB 0) (mVarB 3)) (mCons (mRet (.int 1)) (mRet [])))) (mCons (mOp dIx (mVarB 1) (mVarB 3)) (mRet []))) fun ds => mO (F_law_times (ds ++ []))) (mRet []))) fun ds => mO (F_law_plus (ds ++ [])))))
    (gRet (mVar 2))))
def F_law_inner : List D → Option D := runP g_law_inner 2 4
def g_law_squares : MS := (gSeq (gSet 3 (mBind (mLc [7] (mRange1 (mVar 1)) (gtName 7) (mRet true) (mBind (mLc [5] (mRange1 (mVar 1)) (gtName 5) (mRet true) (mCallG F_law_number (mConsRow 0 (mConsS (mVar 2) (mRet []))))) fun ds => mRet (.list ds))) fun ds => mRet (.list ds)))
    (gSeq (gSetO 4 (mLst (mRet [])))
    (gSeq (gFor (mRange1 (mVar 1)) (gtName 5) (gSeq (gSetO 6 (mLc [8] (mRange1 (mVar 1)) (gtName 8) (mRet true) (mUn dSum (mBind (mLc [9] (mItems (mVarB 3)) (gtName 9) (mRet true) (mOp dMul (mOp dIx (mVarB 9) (mVarB 5)) (mOp dIx (mVarB 9) (mVarB 8)))) fun ds => mRet (.list ds)))))
    (gSeq (gAsg (mOp dAddI (mOp dAddI (mOp dIx (mVarB 6) (mVarB 5)) (mRet (.int 1))) (mCallG F_law_taken (mConsRow 0 (mConsS (mRet (.int 2)) (mRet []))))) (gtSub 6 (mVar 5)))
    (gAppend 4 (mUn dTupOf (mVarB 6))))))
    (gRet (mUn dTupOf (mVarB 4))))))
def F_law_squares : List Sl → DL.Row → Option (D × DL.Row) := runDef g_law_squares 3 10
def g_law_task : MS := (gSeq (gSet 4 (mOp dAddI (mRet (.int 1)) (mCallG F_law_taken (mConsRow 0 (mConsS (mVar 1) (mRet []))))))
    (gSeq (gSet 5 (mCallG F_law_squares (mConsRow 0 (mConsS (mVar 4) (mConsS (mOp dAddI (mRet (.int 1)) (mCallG F_law_taken (mConsRow 0 (mConsS (mRet (.int 2)) (mRet []))))) (mRet []))))))
    (gSeq (gSet 6 (mUn dTupOf (mBind (mLc [11] (mRange1 (mVar 4)) (gtName 11) (mRet true) (mCallG F_law_number (mConsRow 0 (mConsS (mRet (.int 5)) (mRet []))))) fun ds => mRet (.list ds))))
    (gSeq (gSet 7 (mUn dTupOf (mBind (mLc [11] (mRange1 (mVar 4)) (gtName 11) (mRet true) (mCallG F_law_number (mConsRow 0 (mConsS (mRet (.int 3)) (mRet []))))) fun ds => mRet (.list ds))))
    (gSeq (gSetO 8 (mLst (mRet [])))
    (gSeq (gFor (mRange1 (mCallG F_law_taken (mConsRow 0 (mConsS (mOp dAddI (mVarB 2) (mRet (.int 1))) (mRet []))))) (gtName 9) (gSeq (gSet 10 (mUn dTupOf (mBind (mLc [11] (mRange1 (mVar 4)) (gtName 11) (mRet true) (mCallG F_law_number (mConsRow 0 (mConsS (mVar 3) (mRet []))))) fun ds => mRet (.list ds))))
    (gAppend 8 (mTup (mCons (mVar 10) (mCons (mCallG F_law_number (mConsRow 0 (mConsS (mRet (.int 5)) (mRet [])))) (mCons (mIf (mTest (mOp dEq (mCallG F_law_taken (mConsRow 0 (mConsS (mRet (.int 2)) (mRet [])))) (mRet (.int 0)))) (mCallG F_law_number (mConsRow 0 (mConsS (mRet (.int 2)) (mRet [])))) (mRet (.int 0))) (mRet []))))))))
    (gRet (mTup (mCons (mVar 5) (mCons (mVar 6) (mCons (mVar 7) (mCons (mUn dTupOf (mVarB 8)) (mRet [])))))))))))))
def F_law_task : List Sl → DL.Row → Option (D × DL.Row) := runDef g_law_task 4 12
def g_law_share : MS := (gRet (mBind (mCons (mCallG F_law_number (mConsRow 0 (mConsS (mVar 1) (mRet [])))) (mCons (mOp dAddI (mRet (.int 1)) (mCallG F_law_taken (mConsRow 0 (mConsS (mVar 2) (mRet []))))) (mRet []))) fun ds => mO (F_law_fr (ds ++ []))))
def F_law_share : List Sl → DL.Row → Option (D × DL.Row) := runDef g_law_share 3 3
def g_law_slope : MS := (gSeq (gSetO 3 (mLst (mRet [])))
    (gSeq (gFor (mRange1 (mUn dLen (mVarB 2))) (gtName 4) (gSeq (gSet 5 (mBind (mCons (mTup (mCons (mOp dIx (mOp dIx (mVarB 0) (mRet (.int 1))) (mVarB 4)) (mCons (mRet (.int 1)) (mRet [])))) (mCons (mBind (mCons (mTup (mCons (mOp dIx (mOp dIx (mVarB 0) (mRet (.int 2))) (mVarB 4)) (mCons (mRet (.int 1)) (mRet [])))) (mCons (mVar 1) (mRet []))) fun ds => mO (F_law_times (ds ++ []))) (mRet []))) fun ds => mO (F_law_plus (ds ++ []))))
    (gAppend 3 (mBind (mCons (mBind (mCons (mOp dIx (mOp dIx (mVarB 0) (mRet (.int 0))) (mVarB 4)) (mCons (mVar 2) (mRet []))) fun ds => mO (F_law_inner (ds ++ []))) (mCons (mVar 5) (mRet []))) fun ds => mO (F_law_plus (ds ++ []))))))
    (gFz 3 (gRet (mVar 3)))))
def F_law_slope : List D → Option D := runP g_law_slope 3 6
def g_law_gaps : MS := (gSeq (gSetO 3 (mLst (mRet [])))
    (gSeq (gFor (mItems (mOp dIx (mVarB 0) (mRet (.int 3)))) (gtTup 3 (gtCons (gtName 4) (gtCons (gtName 5) (gtCons (gtName 6) gtNil)))) (gSeq (gSet 7 (mBind (mCons (mTup (mCons (mVar 5) (mCons (mRet (.int 1)) (mRet [])))) (mCons (mBind (mCons (mTup (mCons (mVar 6) (mCons (mRet (.int 1)) (mRet [])))) (mCons (mVar 1) (mRet []))) fun ds => mO (F_law_times (ds ++ []))) (mRet []))) fun ds => mO (F_law_plus (ds ++ []))))
    (gAppend 3 (mBind (mCons (mBind (mCons (mVar 4) (mCons (mVar 2) (mRet []))) fun ds => mO (F_law_inner (ds ++ []))) (mCons (mVar 7) (mRet []))) fun ds => mO (F_law_less (ds ++ []))))))
    (gFz 3 (gRet (mVar 3)))))
def F_law_gaps : List D → Option D := runP g_law_gaps 3 8
def g_law_worth : MS := (gSeq (gSet 3 (mTup (mCons (mRet (.int 0)) (mCons (mRet (.int 1)) (mRet [])))))
    (gSeq (gFor (mRange1 (mUn dLen (mVarB 2))) (gtName 4) (gSeq (gSet 5 (mBind (mCons (mTup (mCons (mOp dIx (mOp dIx (mVarB 0) (mRet (.int 1))) (mVarB 4)) (mCons (mRet (.int 1)) (mRet [])))) (mCons (mBind (mCons (mTup (mCons (mOp dIx (mOp dIx (mVarB 0) (mRet (.int 2))) (mVarB 4)) (mCons (mRet (.int 1)) (mRet [])))) (mCons (mVar 1) (mRet []))) fun ds => mO (F_law_times (ds ++ []))) (mRet []))) fun ds => mO (F_law_plus (ds ++ []))))
    (gSeq (gSet 6 (mBind (mCons (mTup (mCons (mRet (.int 1)) (mCons (mRet (.int 2)) (mRet [])))) (mCons (mBind (mCons (mOp dIx (mOp dIx (mVarB 0) (mRet (.int 0))) (mVarB 4)) (mCons (mVar 2) (mRet []))) fun ds => mO (F_law_inner (ds ++ []))) (mRet []))) fun ds => mO (F_law_times (ds ++ []))))
    (gSet 3 (mBind (mCons (mVar 3) (mCons (mBind (mCons (mOp dIx (mVarB 2) (mVarB 4)) (mCons (mBind (mCons (mVar 6) (mCons (mVar 5) (mRet []))) fun ds => mO (F_law_plus (ds ++ []))) (mRet []))) fun ds => mO (F_law_times (ds ++ []))) (mRet []))) fun ds => mO (F_law_plus (ds ++ [])))))))
    (gRet (mVar 3))))
def F_law_worth : List D → Option D := runP g_law_worth 3 7
def g_law_shows : MS := (gSeq (gSet 4 (mBind (mCons (mVar 0) (mCons (mVar 1) (mCons (mVar 2) (mRet [])))) fun ds => mO (F_law_gaps (ds ++ []))))
    (gSeq (gFor (mRange1 (mUn dLen (mVarB 4))) (gtName 5) (gIf (mOr (mTest (mOp dLt (mOp dIx (mOp dIx (mVarB 4) (mVarB 5)) (mRet (.int 0))) (mRet (.int 0)))) (mOr (mTest (mOp dLt (mOp dIx (mOp dIx (mVarB 3) (mVarB 5)) (mRet (.int 0))) (mRet (.int 0)))) (mAnd (mTest (mOp dGt (mOp dIx (mOp dIx (mVarB 4) (mVarB 5)) (mRet (.int 0))) (mRet (.int 0)))) (mTest (mOp dNe (mOp dIx (mOp dIx (mVarB 3) (mVarB 5)) (mRet (.int 0))) (mRet (.int 0))))))) (gRet (mRet (.bool false))) gSkip))
    (gSeq (gSet 6 (mBind (mCons (mVar 0) (mCons (mVar 1) (mCons (mVar 2) (mRet [])))) fun ds => mO (F_law_slope (ds ++ []))))
    (gSeq (gFor (mRange1 (mUn dLen (mVarB 2))) (gtName 5) (gIf (mTest (mOp dNe (mOp dIx (mVarB 6) (mVarB 5)) (mBind (mCons (mBind (mLc [7] (mItems (mOp dIx (mVarB 0) (mRet (.int 3)))) (gtName 7) (mRet true) (mOp dIx (mOp dIx (mVarB 7) (mRet (.int 0))) (mVarB 5))) fun ds => mRet (.list ds)) (mCons (mVar 3) (mRet []))) fun ds => mO (F_law_inner (ds ++ []))))) (gRet (mRet (.bool false))) gSkip))
    (gRet (mRet (.bool true)))))))
def F_law_shows : List D → Option D := runP g_law_shows 4 8
def g_law_bars : MS := (gSeq (gIf (mTest (mOp dNe (mBind (mLc [6] (mItems (mVarB 2)) (gtName 6) (mTest (mOp dLt (mOp dIx (mVarB 6) (mRet (.int 0))) (mRet (.int 0)))) (mVar 6)) fun ds => mRet (.list ds)) (mBind (mLst (mRet [])) fun ds => mRet (.list ds)))) (gRet (mRet (.bool false))) gSkip)
    (gSeq (gFor (mRange1 (mUn dLen (mOp dIx (mVarB 0) (mRet (.int 0))))) (gtName 3) (gIf (mTest (mOp dNe (mOp dIx (mBind (mCons (mBind (mLc [7] (mItems (mOp dIx (mVarB 0) (mRet (.int 3)))) (gtName 7) (mRet true) (mOp dIx (mOp dIx (mVarB 7) (mRet (.int 0))) (mVarB 3))) fun ds => mRet (.list ds)) (mCons (mVar 2) (mRet []))) fun ds => mO (F_law_inner (ds ++ []))) (mRet (.int 0))) (mRet (.int 0)))) (gRet (mRet (.bool false))) gSkip))
    (gSeq (gSet 4 (mTup (mCons (mRet (.int 0)) (mCons (mRet (.int 1)) (mRet [])))))
    (gSeq (gFor (mRange1 (mUn dLen (mVarB 2))) (gtName 3) (gSeq (gSet 5 (mBind (mCons (mTup (mCons (mOp dIx (mOp dIx (mOp dIx (mVarB 0) (mRet (.int 3))) (mVarB 3)) (mRet (.int 1))) (mCons (mRet (.int 1)) (mRet [])))) (mCons (mBind (mCons (mTup (mCons (mOp dIx (mOp dIx (mOp dIx (mVarB 0) (mRet (.int 3))) (mVarB 3)) (mRet (.int 2))) (mCons (mRet (.int 1)) (mRet [])))) (mCons (mVar 1) (mRet []))) fun ds => mO (F_law_times (ds ++ []))) (mRet []))) fun ds => mO (F_law_plus (ds ++ []))))
    (gSet 4 (mBind (mCons (mVar 4) (mCons (mBind (mCons (mVar 5) (mCons (mOp dIx (mVarB 2) (mVarB 3)) (mRet []))) fun ds => mO (F_law_times (ds ++ []))) (mRet []))) fun ds => mO (F_law_plus (ds ++ []))))))
    (gRet (mOp dGt (mOp dIx (mVarB 4) (mRet (.int 0))) (mRet (.int 0))))))))
def F_law_bars : List D → Option D := runP g_law_bars 3 8
def g_law : MS := (gSeq (gPar 2 3 (mBind (mCallG F_law_task (mConsRow 1 (mConsS (mRet (.int 3)) (mConsS (mRet (.int 4)) (mConsS (mRet (.int 3)) (mRet [])))))) fun d => mRet (.s d)) (mBind (mCallG F_law_share (mConsRow 1 (mConsS (mRet (.int 6)) (mConsS (mRet (.int 4)) (mRet []))))) fun d => mRet (.s d)))
    (gSeq (gPar 4 5 (mBind (mUn dLen (mOp dIx (mVarB 2) (mRet (.int 0)))) fun d => mRet (.s d)) (mBind (mUn dLen (mOp dIx (mVarB 2) (mRet (.int 3)))) fun d => mRet (.s d)))
    (gSeq (gSet 6 (mUn dTupOf (mBind (mLc [12] (mRange1 (mVar 4)) (gtName 12) (mRet true) (mBind (mCons (mCallG F_law_number (mConsRow 1 (mConsS (mRet (.int 6)) (mRet [])))) (mCons (mOp dAddI (mRet (.int 1)) (mCallG F_law_taken (mConsRow 1 (mConsS (mRet (.int 3)) (mRet []))))) (mRet []))) fun ds => mO (F_law_fr (ds ++ [])))) fun ds => mRet (.list ds))))
    (gSeq (gIf (mNot (mTest (mBind (mCons (mBind (mCons (mVar 2) (mCons (mVar 3) (mCons (mVar 6) (mRet [])))) fun ds => mO (F_worth (ds ++ []))) (mCons (mBind (mCons (mVar 2) (mCons (mVar 3) (mCons (mVar 6) (mRet [])))) fun ds => mO (F_law_worth (ds ++ []))) (mRet []))) fun ds => mO (F_law_alike (ds ++ []))))) (gRet (mRet (.bool false))) gSkip)
    (gSeq (gSet 7 (mBind (mCons (mVar 2) (mCons (mVar 3) (mCons (mVar 6) (mRet [])))) fun ds => mO (F_law_gaps (ds ++ []))))
    (gSeq (gIf (mNot (mTest (mBind (mCons (mBind (mCons (mVar 2) (mCons (mVar 3) (mCons (mVar 6) (mRet [])))) fun ds => mO (F_is_kept (ds ++ []))) (mCons (mOp dEq (mBind (mLc [17] (mItems (mVarB 7)) (gtName 17) (mTest (mOp dLt (mOp dIx (mVarB 17) (mRet (.int 0))) (mRet (.int 0)))) (mVar 17)) fun ds => mRet (.list ds)) (mBind (mLst (mRet [])) fun ds => mRet (.list ds))) (mRet []))) fun ds => mO (F_law_is (ds ++ []))))) (gRet (mRet (.bool false))) gSkip)
    (gSeq (gSet 8 (mUn dTupOf (mBind (mLc [12] (mRange1 (mVar 5)) (gtName 12) (mRet true) (mBind (mCons (mOp dSub (mCallG F_law_taken (mConsRow 1 (mConsS (mRet (.int 5)) (mRet [])))) (mRet (.int 1))) (mCons (mOp dAddI (mRet (.int 1)) (mCallG F_law_taken (mConsRow 1 (mConsS (mRet (.int 2)) (mRet []))))) (mRet []))) fun ds => mO (F_law_fr (ds ++ [])))) fun ds => mRet (.list ds))))
    (gSeq (gIf (mNot (mTest (mBind (mCons (mBind (mCons (mVar 2) (mCons (mVar 3) (mCons (mVar 6) (mCons (mVar 8) (mRet []))))) fun ds => mO (F_shows (ds ++ []))) (mCons (mBind (mCons (mVar 2) (mCons (mVar 3) (mCons (mVar 6) (mCons (mVar 8) (mRet []))))) fun ds => mO (F_law_shows (ds ++ []))) (mRet []))) fun ds => mO (F_law_is (ds ++ []))))) (gRet (mRet (.bool false))) gSkip)
    (gSeq (gIf (mNot (mTest (mBind (mCons (mBind (mCons (mVar 2) (mCons (mVar 3) (mCons (mVar 8) (mRet [])))) fun ds => mO (F_bars (ds ++ []))) (mCons (mBind (mCons (mVar 2) (mCons (mVar 3) (mCons (mVar 8) (mRet [])))) fun ds => mO (F_law_bars (ds ++ []))) (mRet []))) fun ds => mO (F_law_is (ds ++ []))))) (gRet (mRet (.bool false))) gSkip)
    (gSeq (gSet 9 (mBind (mCons (mVar 2) (mCons (mVar 3) (mCons (mVar 8) (mRet [])))) fun ds => mO (F_promise (ds ++ []))))
    (gSeq (gIf (mTest (mOp dNe (mBind (mLc [18] (mItems (mVarB 8)) (gtName 18) (mTest (mOp dLt (mOp dIx (mVarB 18) (mRet (.int 0))) (mRet (.int 0)))) (mVar 18)) fun ds => mRet (.list ds)) (mBind (mLst (mRet [])) fun ds => mRet (.list ds)))) (gRet (mUn (fun d => some (.bool (dIsN d))) (mVarB 9))) gSkip)
    (gSeq (gPar 10 11 (mBind (mLst (mRet [])) fun d => mRet (.o d)) (mBind (mRet (.int 1)) fun d => mRet (.s d)))
    (gSeq (gFor (mRange1 (mVar 4)) (gtName 12) (gSeq (gSet 13 (mBind (mCons (mTup (mCons (mOp dIx (mOp dIx (mVarB 2) (mRet (.int 1))) (mVarB 12)) (mCons (mRet (.int 1)) (mRet [])))) (mCons (mBind (mCons (mTup (mCons (mOp dIx (mOp dIx (mVarB 2) (mRet (.int 2))) (mVarB 12)) (mCons (mRet (.int 1)) (mRet [])))) (mCons (mVar 3) (mRet []))) fun ds => mO (F_law_times (ds ++ []))) (mRet []))) fun ds => mO (F_law_plus (ds ++ []))))
    (gSeq (gAppend 10 (mBind (mCons (mBind (mCons (mBind (mLc [19] (mItems (mOp dIx (mVarB 2) (mRet (.int 3)))) (gtName 19) (mRet true) (mOp dIx (mOp dIx (mVarB 19) (mRet (.int 0))) (mVarB 12))) fun ds => mRet (.list ds)) (mCons (mVar 8) (mRet []))) fun ds => mO (F_law_inner (ds ++ []))) (mCons (mVar 13) (mRet []))) fun ds => mO (F_law_less (ds ++ []))))
    (gSet 11 (mOp dMul (mVarB 11) (mOp dIx (mOp dIx (mVarB 10) (mUn dNeg (mRet (.int 1)))) (mRet (.int 1))))))))
    (gSeq (gSet 14 (mBind (mCons (mBind (mLc [19] (mItems (mOp dIx (mVarB 2) (mRet (.int 0)))) (gtName 19) (mRet true) (mBind (mBind (mVarB 19) fun d => mO (dItems d)) fun ds => mRet (.list ds))) fun ds => mRet (.list ds)) (mCons (mBind (mLc [18] (mItems (mVarB 10)) (gtName 18) (mRet true) (mOp dMul (mOp dIx (mVarB 18) (mRet (.int 0))) (mOp dDiv (mVarB 11) (mOp dIx (mVarB 18) (mRet (.int 1)))))) fun ds => mRet (.list ds)) (mRet []))) fun ds => mO (F_law_solved (ds ++ []))))
    (gSeq (gSet 14 (mBind (mLc [18] (mItems (mVarB 14)) (gtName 18) (mRet true) (mBind (mCons (mVar 18) (mCons (mTup (mCons (mRet (.int 1)) (mCons (mVar 11) (mRet [])))) (mRet []))) fun ds => mO (F_law_times (ds ++ [])))) fun ds => mRet (.list ds)))
    (gSeq (gSet 15 (mTup (mCons (mRet (.int 0)) (mCons (mRet (.int 1)) (mRet [])))))
    (gSeq (gFor (mRange1 (mVar 4)) (gtName 12) (gSet 15 (mBind (mCons (mVar 15) (mCons (mBind (mCons (mTup (mCons (mRet (.int 1)) (mCons (mRet (.int 2)) (mRet [])))) (mCons (mBind (mCons (mOp dIx (mVarB 10) (mVarB 12)) (mCons (mOp dIx (mVarB 14) (mVarB 12)) (mRet []))) fun ds => mO (F_law_times (ds ++ []))) (mRet []))) fun ds => mO (F_law_times (ds ++ []))) (mRet []))) fun ds => mO (F_law_less (ds ++ [])))))
    (gSeq (gFor (mRange1 (mVar 5)) (gtName 12) (gSeq (gSet 16 (mBind (mCons (mTup (mCons (mOp dIx (mOp dIx (mOp dIx (mVarB 2) (mRet (.int 3))) (mVarB 12)) (mRet (.int 1))) (mCons (mRet (.int 1)) (mRet [])))) (mCons (mBind (mCons (mTup (mCons (mOp dIx (mOp dIx (mOp dIx (mVarB 2) (mRet (.int 3))) (mVarB 12)) (mRet (.int 2))) (mCons (mRet (.int 1)) (mRet [])))) (mCons (mVar 3) (mRet []))) fun ds => mO (F_law_times (ds ++ []))) (mRet []))) fun ds => mO (F_law_plus (ds ++ []))))
    (gSet 15 (mBind (mCons (mVar 15) (mCons (mBind (mCons (mVar 16) (mCons (mOp dIx (mVarB 8) (mVarB 12)) (mRet []))) fun ds => mO (F_law_times (ds ++ []))) (mRet []))) fun ds => mO (F_law_plus (ds ++ []))))))
    (gSeq (gIf (mNot (mTest (mBind (mCons (mVar 9) (mCons (mVar 15) (mRet []))) fun ds => mO (F_law_alike (ds ++ []))))) (gRet (mRet (.bool false))) gSkip)
    (gRet (mOrV (mOp dNe (mBind (mLc [17] (mItems (mVarB 7)) (gtName 17) (mTest (mOp dLt (mOp dIx (mVarB 17) (mRet (.int 0))) (mRet (.int 0)))) (mVar 17)) fun ds => mRet (.list ds)) (mBind (mLst (mRet [])) fun ds => mRet (.list ds))) (mNotV (mBind (mCons (mBind (mCons (mVar 2) (mCons (mVar 3) (mCons (mVar 6) (mRet [])))) fun ds => mO (F_law_worth (ds ++ []))) (mCons (mVar 9) (mRet []))) fun ds => mO (F_law_below (ds ++ [])))))))))))))))))))))))))
end PG

namespace PX
open PySem L2 DL
/-! ### evaluation of the meanings, from the left -/
def bnd {α β : Type} (x : Option (α × Row)) (k : α → Row → Option β) : Option β := match x with
  | none => none
  | some (a, r) => k a r
theorem bnd_congr {α β : Type} {x y : Option (α × Row)} {k : α → Row → Option β} (h : x = y) : bnd x k = bnd y k := by rw [h]
@[simp] theorem bnd_some {α β : Type} {a : α} {r : Row} {k : α → Row → Option β} : bnd (some (a, r)) k = k a r := (rfl)
section
variable {α β : Type} {f fa fb : MM α} {k : α → MM β} {ρ : Ev} {r : Row} {sl : List Sl} {i j : Nat}
@[simp] theorem e_bind : mBind f k ρ = bnd (f ρ) fun a r => k a (ρ.wr r) := by
  unfold mBind bnd
  cases f ρ <;> rfl
@[simp] theorem e_ret {a : α} : mRet a ρ = some (a, ρ.row) := (rfl)
@[simp] theorem e_oS {a : α} : mO (some a) ρ = some (a, ρ.row) := (rfl)
@[simp] theorem e_wr : Ev.wr ⟨r, sl⟩ j' = ⟨j', sl⟩ := (rfl)
@[simp] theorem e_get : Ev.get ⟨r, sl⟩ i = sl.getD i .no := (rfl)
@[simp] theorem e_set {x : Sl} : Ev.set ⟨r, sl⟩ i x = ⟨r, sl.set i x⟩ := (rfl)
theorem mVar_s {d : D} (h : ρ.get i = .s d) : mVar i ρ = some (d, ρ.row) := by unfold mVar; rw [h]
theorem mVarB_s {d : D} (h : ρ.get i = .s d) : mVarB i ρ = some (d, ρ.row) := by unfold mVarB; rw [h]
theorem mVarB_o {d : List D} (h : ρ.get i = .o d) : mVarB i ρ = some (.list d, ρ.row) := by unfold mVarB; rw [h]
theorem mVarS_s {d : D} (h : ρ.get i = .s d) : mVarS i ρ = some (d, ρ.row) := by unfold mVarS; rw [h]
/-- a slot's reading -/
def slS : Sl → Option D
  | .s d => some d
  | _ => none
def slB : Sl → Option D
  | .s d => some d
  | .o ds => some (.list ds)
  | .b d => some d
  | _ => none
def slL : Sl → Option D
  | .s d => some d
  | .b d => some d
  | _ => none
@[simp] theorem slS_s {d : D} : slS (.s d) = some d := (rfl)
@[simp] theorem slB_s {d : D} : slB (.s d) = some d := (rfl)
@[simp] theorem slB_o {d : List D} : slB (.o d) = some (.list d) := (rfl)
@[simp] theorem slB_b {d : D} : slB (.b d) = some d := (rfl)
@[simp] theorem slL_s {d : D} : slL (.s d) = some d := (rfl)
@[simp] theorem slL_b {d : D} : slL (.b d) = some d := (rfl)
@[simp] theorem e_var : mVar i ρ = mO (slS (ρ.get i)) ρ := by
  unfold mVar slS
  cases ρ.get i <;> rfl
@[simp] theorem e_varB : mVarB i ρ = mO (slB (ρ.get i)) ρ := by
  unfold mVarB slB
  cases ρ.get i <;> rfl
@[simp] theorem e_varS : mVarS i ρ = mO (slL (ρ.get i)) ρ := by
  unfold mVarS slL
  cases ρ.get i <;> rfl
@[simp] theorem e_op {op : D → D → Option D} {fa fb : MM D} : mOp op fa fb ρ = bnd (fa ρ) fun a r => bnd (fb (ρ.wr r)) fun b r2 => mO (op a b) ((ρ.wr r).wr r2) := by
  unfold mOp
  rw [e_bind]
  congr 1
  funext a r
  rw [e_bind]
@[simp] theorem e_opF {op : D → D → Option (List D)} {fa fb : MM D} : mOpF op fa fb ρ = bnd (fa ρ) fun a r => bnd (fb (ρ.wr r)) fun b r2 => mO (op a b) ((ρ.wr r).wr r2) := by
  unfold mOpF
  rw [e_bind]
  congr 1
  funext a r
  rw [e_bind]
@[simp] theorem e_un {op : D → Option D} {fa : MM D} : mUn op fa ρ = bnd (fa ρ) fun a r => mO (op a) (ρ.wr r) := by
  unfold mUn
  rw [e_bind]
@[simp] theorem e_cons {fa : MM D} {fl : MM (List D)} : mCons fa fl ρ = bnd (fa ρ) fun a r => bnd (fl (ρ.wr r)) fun l r2 => some (a :: l, r2) := by
  unfold mCons
  rw [e_bind]
  congr 1
  funext a r
  rw [e_bind]
  rfl
@[simp] theorem e_star {fa : MM D} {fl : MM (List D)} : mStar fa fl ρ = bnd (fa ρ) fun a r => bnd (mO (dItems a) (ρ.wr r)) fun l1 r1 => bnd (fl ((ρ.wr r).wr r1)) fun l r2 => some (l1 ++ l, r2) := by
  unfold mStar
  rw [e_bind]
  congr 1
  funext a r
  rw [e_bind]
  congr 1
  funext l1 r1
  rw [e_bind]
  rfl
@[simp] theorem e_tup {fl : MM (List D)} : mTup fl ρ = bnd (fl ρ) fun l r => mO (dTup l) (ρ.wr r) := by
  unfold mTup
  rw [e_bind]
@[simp] theorem e_lst {fl : MM (List D)} : mLst fl ρ = bnd (fl ρ) fun l r => mO (dLst l) (ρ.wr r) := by
  unfold mLst
  rw [e_bind]
def tb : D → Option Bool
  | .bool b => some b
  | _ => none
@[simp] theorem tb_bool {b : Bool} : tb (.bool b) = some b := (rfl)
@[simp] theorem e_test {f : MM D} : mTest f ρ = bnd (f ρ) fun d r => mO (tb d) (ρ.wr r) := by
  unfold mTest
  rw [e_bind]
  rfl
@[simp] theorem e_chain {o o' : D → D → Option D} {fa fb fc : MM D} : mChain o o' fa fb fc ρ = bnd (fa ρ) fun a r => bnd (fb (ρ.wr r)) fun b r2 => bnd (mO (o a b) ((ρ.wr r).wr r2)) fun k r3 => match tb k with
    | some true => bnd (fc (((ρ.wr r).wr r2).wr r3)) fun c r4 => mO (o' b c) ((((ρ.wr r).wr r2).wr r3).wr r4)
    | some false => some (PyData.bool false, r3)
    | none => none := by
  unfold mChain
  rw [e_bind]
  congr 1
  funext a r
  rw [e_bind]
  congr 1
  funext b r2
  rw [e_bind]
  congr 1
  funext k r3
  cases k with
  | bool b =>
    cases b
    · rfl
    · simp only [tb_bool]
      rw [e_bind]
  | _ => rfl
/-- a choice, from the left -/
def cho {β : Type} (b : Bool) (x y : Option β) : Option β := if b = true then x else y
theorem cho_congr {β : Type} {b c : Bool} {x y : Option β} (h : b = c) : cho b x y = cho c x y := by rw [h]
@[simp] theorem cho_t {β : Type} {x y : Option β} : cho true x y = x := (rfl)
@[simp] theorem cho_f {β : Type} {x y : Option β} : cho false x y = y := (rfl)
theorem ite_cho {β : Type} {b : Bool} {x y : Option β} : (if b = true then x else y) = cho b x y := rfl
@[simp] theorem e_if {ft : MM Bool} {fa fb : MM β} : mIf ft fa fb ρ = bnd (ft ρ) fun b r => cho b (fa (ρ.wr r)) (fb (ρ.wr r)) := by
  unfold mIf
  rw [e_bind]
  congr 1
  funext b r
  cases b <;> rfl
@[simp] theorem e_not {ft : MM Bool} : mNot ft ρ = bnd (ft ρ) fun b r => some (!b, r) := by
  unfold mNot
  rw [e_bind]
  rfl
@[simp] theorem e_and {f g : MM Bool} : mAnd f g ρ = bnd (f ρ) fun b r => cho b (g (ρ.wr r)) (some (false, r)) := by
  unfold mAnd
  rw [e_bind]
  congr 1
  funext b r
  cases b <;> rfl
@[simp] theorem e_or {f g : MM Bool} : mOr f g ρ = bnd (f ρ) fun b r => cho b (some (true, r)) (g (ρ.wr r)) := by
  unfold mOr
  rw [e_bind]
  congr 1
  funext b r
  cases b <;> rfl
@[simp] theorem e_andV {f g : MM D} : mAndV f g ρ = bnd (mTest f ρ) fun b r => cho b (g (ρ.wr r)) (some (PyData.bool false, r)) := by
  unfold mAndV
  rw [e_bind]
  congr 1
  funext b r
  cases b <;> rfl
@[simp] theorem e_orV {f g : MM D} : mOrV f g ρ = bnd (mTest f ρ) fun b r => cho b (some (PyData.bool true, r)) (g (ρ.wr r)) := by
  unfold mOrV
  rw [e_bind]
  congr 1
  funext b r
  cases b <;> rfl
@[simp] theorem e_notV {f : MM D} : mNotV f ρ = bnd (mTest f ρ) fun b r => some (PyData.bool (!b), r) := by
  unfold mNotV
  rw [e_bind]
  rfl
@[simp] theorem e_items {f : MM D} : mItems f ρ = bnd (f ρ) fun a r => mO (dItems a) (ρ.wr r) := by
  unfold mItems
  rw [e_bind]
@[simp] theorem e_rg1 {f : MM D} : mRange1 f ρ = bnd (f ρ) fun a r => mO (dRange (.int 0) a) (ρ.wr r) := by
  unfold mRange1
  rw [e_bind]
@[simp] theorem e_rg2 {f f2 : MM D} : mRange2 f f2 ρ = bnd (f ρ) fun a r => bnd (f2 (ρ.wr r)) fun b r2 => mO (dRange a b) ((ρ.wr r).wr r2) := by
  unfold mRange2
  rw [e_bind]
  congr 1
  funext a r
  rw [e_bind]
/-- the items of two -/
def zp2 (a b : D) : Option (List D) := match dItems a, dItems b with
  | some xs, some ys => some (List.zipWith (fun x y => PyData.tuple [x, y]) xs ys)
  | _, _ => none
def zp3 (a b c : D) : Option (List D) := match dItems a, dItems b, dItems c with
  | some xs, some ys, some zs => some (zip3 xs ys zs)
  | _, _, _ => none
@[simp] theorem e_zip2 {f f2 : MM D} : mZip2 f f2 ρ = bnd (f ρ) fun a r => bnd (f2 (ρ.wr r)) fun b r2 => mO (zp2 a b) ((ρ.wr r).wr r2) := by
  unfold mZip2
  rw [e_bind]
  congr 1
  funext a r
  rw [e_bind]
  congr 1
  funext b r2
  unfold zp2
  cases h1 : dItems a <;> cases h2 : dItems b <;> simp [mO, bnd] <;> rfl
@[simp] theorem e_zip3 {f f2 f3 : MM D} : mZip3 f f2 f3 ρ = bnd (f ρ) fun a r => bnd (f2 (ρ.wr r)) fun b r2 => bnd (f3 ((ρ.wr r).wr r2)) fun c r3 => mO (zp3 a b c) (((ρ.wr r).wr r2).wr r3) := by
  unfold mZip3
  rw [e_bind]
  congr 1
  funext a r
  rw [e_bind]
  congr 1
  funext b r2
  rw [e_bind]
  congr 1
  funext c r3
  unfold zp3
  cases h1 : dItems a <;> cases h2 : dItems b <;> cases h3 : dItems c <;> simp [mO, bnd] <;> rfl
@[simp] theorem e_enum {f : MM D} : mEnum f ρ = bnd (f ρ) fun a r => mO ((dItems a).map enumD) (ρ.wr r) := by
  unfold mEnum
  rw [e_bind]
  congr 1
  funext a r
  rw [e_bind]
  cases dItems a <;> rfl
def pt : D → Option (Option Int)
  | .int i => some (some i)
  | _ => none
@[simp] theorem pt_int {i : Int} : pt (.int i) = some (some i) := (rfl)
@[simp] theorem e_part {f : MM D} : mPart f ρ = bnd (f ρ) fun a r => mO (pt a) (ρ.wr r) := by
  unfold mPart
  rw [e_bind]
  rfl
@[simp] theorem e_sl {fa : MM D} {fl fh : MM (Option Int)} : mSl fa fl fh ρ = bnd (fa ρ) fun a r => bnd (fl (ρ.wr r)) fun l r2 => bnd (fh ((ρ.wr r).wr r2)) fun h r3 => mO (dSl a l h) (((ρ.wr r).wr r2).wr r3) := by
  unfold mSl
  rw [e_bind]
  congr 1
  funext a r
  rw [e_bind]
  congr 1
  funext b r2
  rw [e_bind]
@[simp] theorem e_lc {vs : List Nat} {fi : MM (List D)} {fg : D → Ev → Option Ev} {ft : MM Bool} {fe : MM D} : mLc vs fi fg ft fe ρ = bnd (fi ρ) fun ds r => bnd (mO (dLst ds) (ρ.wr r)) fun ds r2 => lcGo vs fg ft fe ds ((ρ.wr r).wr r2) := by
  unfold mLc
  rw [e_bind]
  congr 1
  funext a r
  rw [e_bind]
@[simp] theorem e_callG {F : List Sl → Row → Option (D × Row)} {fl : MM (List Sl)} : mCallG F fl ρ = bnd (fl ρ) fun l r => F l r := by
  unfold mCallG
  rw [e_bind]
  rfl
@[simp] theorem e_consS {s : MM D} {fl : MM (List Sl)} : mConsS s fl ρ = bnd (s ρ) fun a r => bnd (fl (ρ.wr r)) fun l r2 => some (Sl.s a :: l, r2) := by
  unfold mConsS
  rw [e_bind]
  congr 1
  funext a r
  rw [e_bind]
  rfl
end
/-! ### statements -/
def thn (x : Option Oc) (k : Ev → Option Oc) : Option Oc := match x with
  | some (.nx ρ) => k ρ
  | o => o
theorem thn_congr {x y : Option Oc} {k : Ev → Option Oc} (h : x = y) : thn x k = thn y k := by rw [h]
@[simp] theorem thn_nx {ρ : Ev} {k : Ev → Option Oc} : thn (some (.nx ρ)) k = k ρ := (rfl)
@[simp] theorem thn_ret {d : D} {w : Row} {k : Ev → Option Oc} : thn (some (.ret d w)) k = some (.ret d w) := (rfl)
section
variable {ρ : Ev} {i j l : Nat} {f : MM D}
@[simp] theorem e_seq {g g' : MS} : gSeq g g' ρ = thn (g ρ) g' := by
  unfold gSeq thn
  cases g ρ with
  | none => rfl
  | some o => cases o <;> rfl
@[simp] theorem e_skip : gSkip ρ = some (.nx ρ) := (rfl)
@[simp] theorem e_gset : gSet i f ρ = bnd (f ρ) fun d r => some (.nx ((ρ.wr r).set i (.s d))) := by
  unfold gSet bnd
  cases f ρ <;> rfl
@[simp] theorem e_gsetO {f : MM (List D)} : gSetO i f ρ = bnd (f ρ) fun d r => some (.nx ((ρ.wr r).set i (.o d))) := by
  unfold gSetO bnd
  cases f ρ <;> rfl
@[simp] theorem e_gif {ft : MM Bool} {g g' : MS} : gIf ft g g' ρ = bnd (ft ρ) fun b r => cho b (g (ρ.wr r)) (g' (ρ.wr r)) := by
  unfold gIf bnd
  cases ft ρ <;> rfl
@[simp] theorem e_gret : gRet f ρ = bnd (f ρ) fun d r => some (.ret d r) := by
  unfold gRet bnd
  cases f ρ <;> rfl
@[simp] theorem e_gretN : gRetN ρ = some (.ret .none ρ.row) := (rfl)
@[simp] theorem e_gdrop : gDrop f ρ = bnd (f ρ) fun _ r => some (.nx (ρ.wr r)) := by
  unfold gDrop bnd
  cases f ρ <;> rfl
@[simp] theorem e_gpar {fa fb : MM Sl} : gPar i j fa fb ρ = bnd (fa ρ) fun x r => bnd (fb (ρ.wr r)) fun y r2 => some (.nx (((ρ.wr r2).set i x).set j y)) := by
  unfold gPar bnd
  cases fa ρ with
  | none => rfl
  | some p =>
    obtain ⟨x, r⟩ := p
    simp only
    cases fb (ρ.wr r) <;> rfl
@[simp] theorem e_gpar3 {fa fb fc : MM D} : gPar3 i j l fa fb fc ρ = bnd (fa ρ) fun x r => bnd (fb (ρ.wr r)) fun y r2 => bnd (fc (ρ.wr r2)) fun z r3 => some (.nx ((((ρ.wr r3).set i (.s x)).set j (.s y)).set l (.s z))) := by
  unfold gPar3 bnd
  cases fa ρ with
  | none => rfl
  | some p =>
    obtain ⟨x, r⟩ := p
    simp only
    cases fb (ρ.wr r) with
    | none => rfl
    | some p2 =>
      obtain ⟨y, r2⟩ := p2
      simp only
      cases fc (ρ.wr r2) <;> rfl
@[simp] theorem e_gfor {fi : MM (List D)} {fg : D → Ev → Option Ev} {body : MS} : gFor fi fg body ρ = bnd (fi ρ) fun ds r => forGo fg body ds (ρ.wr r) := by
  unfold gFor bnd
  cases fi ρ <;> rfl
/-- the outcome of targets -/
def onE {β : Type} (x : Option Ev) (k : Ev → Option β) : Option β := match x with
  | some ρ => k ρ
  | none => none
theorem onE_congr {β : Type} {x y : Option Ev} {k : Ev → Option β} (h : x = y) : onE x k = onE y k := by rw [h]
@[simp] theorem onE_some {β : Type} {ρ : Ev} {k : Ev → Option β} : onE (some ρ) k = k ρ := (rfl)
@[simp] theorem e_gasg {fg : D → Ev → Option Ev} : gAsg f fg ρ = bnd (f ρ) fun d r => onE (fg d (ρ.wr r)) fun ρ' => some (.nx ρ') := by
  unfold gAsg bnd
  cases f ρ with
  | none => rfl
  | some p =>
    obtain ⟨x, r⟩ := p
    simp only
    cases fg x (ρ.wr r) <;> rfl
@[simp] theorem e_gtName {d : D} : gtName i d ρ = some (ρ.set i (.s d)) := (rfl)
@[simp] theorem e_gtNil : gtNil [] ρ = some ρ := (rfl)
@[simp] theorem e_gtCons {f : D → Ev → Option Ev} {fs : List D → Ev → Option Ev} {d : D} {ds : List D} : gtCons f fs (d :: ds) ρ = onE (f d ρ) fun ρ1 => fs ds ρ1 := by
  unfold onE
  show (match f d ρ with | some ρ1 => fs ds ρ1 | none => none) = _
  cases f d ρ <;> rfl
@[simp] theorem e_gtTup {n : Nat} {fs : List D → Ev → Option Ev} {ds : List D} (h : ds.length = n) : gtTup n fs (.tuple ds) ρ = fs ds ρ := if_pos h
/-- a store into one's own list -/
def stO (x : Sl) (k : Int) (d : D) : Option Sl := match x with
  | .o ds => (match ixN ds.length k with
    | some j => some (.o (ds.set j d))
    | none => none)
  | _ => none
@[simp] theorem e_gtSub {fi : MM D} {d : D} : gtSub i fi d ρ = bnd (fi ρ) fun kd r => match pt kd with
    | some (some k) => (match stO ((ρ.wr r).get i) k d with
      | some x => some ((ρ.wr r).set i x)
      | none => none)
    | _ => none := by
  unfold gtSub bnd
  cases fi ρ with
  | none => rfl
  | some p =>
    obtain ⟨x, r⟩ := p
    cases x with
    | int k =>
      simp only [pt_int]
      unfold stO
      cases (ρ.wr r).get i with
      | o ds =>
        simp only
        cases ixN ds.length k <;> rfl
      | _ => rfl
    | _ => rfl
def apO (x : Sl) (d : D) : Option Sl := match x with
  | .o ds => if ds.length < 1000000 then some (.o (ds ++ [d])) else none
  | _ => none
@[simp] theorem e_gapp : gAppend i f ρ = bnd (f ρ) fun d r => match apO ((ρ.wr r).get i) d with
    | some x => some (.nx ((ρ.wr r).set i x))
    | none => none := by
  unfold gAppend bnd
  cases f ρ with
  | none => rfl
  | some p =>
    obtain ⟨x, r⟩ := p
    simp only
    unfold apO
    cases (ρ.wr r).get i with
    | o ds =>
      simp only
      split <;> rfl
    | _ => rfl
end
/-! ### operators -/
section
variable {i j : Int} {a b : Bool} {xs ys : List D}
@[simp] theorem d_add : dAddI (.int i) (.int j) = some (.int (i + j)) := (rfl)
@[simp] theorem d_sub : dSub (.int i) (.int j) = some (.int (i - j)) := (rfl)
@[simp] theorem d_mul (h : mulOk i j = true) : dMul (.int i) (.int j) = some (.int (i * j)) := if_pos h
@[simp] theorem d_div (h : j ≠ 0) : dDiv (.int i) (.int j) = some (.int (i.fdiv j)) := if_neg h
@[simp] theorem d_mod (h : j ≠ 0) : dMod (.int i) (.int j) = some (.int (i.fmod j)) := if_neg h
@[simp] theorem d_lt : dLt (.int i) (.int j) = some (.bool (decide (i < j))) := (rfl)
@[simp] theorem d_le : dLe (.int i) (.int j) = some (.bool (decide (i ≤ j))) := (rfl)
@[simp] theorem d_gt : dGt (.int i) (.int j) = some (.bool (decide (j < i))) := (rfl)
@[simp] theorem d_ge : dGe (.int i) (.int j) = some (.bool (decide (j ≤ i))) := (rfl)
theorem eqv_int : PyData.eqv (.int i) (.int j) = decide (i = j) := by
  unfold PyData.eqv
  by_cases h : i = j <;> simp [h]
theorem shaped_int : SeqAt.shaped (.int i) = true := rfl
theorem shaped_bool : SeqAt.shaped (.bool a) = true := rfl
@[simp] theorem d_eqI : dEq (.int i) (.int j) = some (.bool (decide (i = j))) := by
  unfold dEq
  rw [shaped_int, shaped_int, eqv_int]
  rfl
@[simp] theorem d_neI : dNe (.int i) (.int j) = some (.bool (!decide (i = j))) := by
  unfold dNe
  rw [shaped_int, shaped_int, eqv_int]
  rfl
@[simp] theorem d_eqB : dEq (.bool a) (.bool b) = some (.bool (a == b)) := by
  cases a <;> cases b <;> rfl
@[simp] theorem d_neB : dNe (.bool a) (.bool b) = some (.bool (!(a == b))) := by
  cases a <;> cases b <;> rfl
@[simp] theorem d_neg : dNeg (.int i) = some (.int (-i)) := (rfl)
@[simp] theorem d_abs : dAbs (.int i) = some (.int i.natAbs) := by
  show some (PyData.int (if i < 0 then -i else i)) = _
  congr 2
  split <;> omega
@[simp] theorem d_int : dInt (.int i) = some (.int i) := (rfl)
@[simp] theorem d_max2 : dMax2 (.int i) (.int j) = some (.int (max i j)) := by
  show some (PyData.int (if j > i then j else i)) = _
  congr 2
  rw [Int.max_def]
  split <;> split <;> omega
@[simp] theorem d_min2 : dMin2 (.int i) (.int j) = some (.int (min i j)) := by
  show some (PyData.int (if j < i then j else i)) = _
  congr 2
  rw [Int.min_def]
  split <;> split <;> omega
@[simp] theorem d_itL : dItems (.list xs) = some xs := (rfl)
@[simp] theorem d_itT : dItems (.tuple xs) = some xs := (rfl)
@[simp] theorem d_lenL : dLen (.list xs) = some (.int (xs.length : Nat)) := (rfl)
@[simp] theorem d_lenT : dLen (.tuple xs) = some (.int (xs.length : Nat)) := (rfl)
@[simp] theorem d_tup (h : xs.length ≤ 1000000) : dTup xs = some (.tuple xs) := if_pos h
@[simp] theorem d_lst (h : xs.length ≤ 1000000) : dLst xs = some xs := if_pos h
@[simp] theorem d_ixT : dIx (.tuple xs) (.int i) = L2.atI xs i := (rfl)
@[simp] theorem d_ixL : dIx (.list xs) (.int i) = L2.atI xs i := (rfl)
@[simp] theorem d_tofL : dTupOf (.list xs) = some (.tuple xs) := (rfl)
@[simp] theorem d_tofT : dTupOf (.tuple xs) = some (.tuple xs) := (rfl)
theorem ixN_nat {n k : Nat} (h : k < n) : ixN n (k : Int) = some k := by
  unfold ixN
  rw [if_pos (Int.natCast_nonneg k), if_pos (by omega)]
  rfl
theorem atI_nat {α : Type} {xs : List α} {k : Nat} (h : k < xs.length) : L2.atI xs (k : Int) = xs[k]? := by
  unfold L2.atI
  rw [ixN_nat h]
  rfl
@[simp] theorem atI_0 {α : Type} {x : α} {xs : List α} : L2.atI (x :: xs) 0 = some x := by
  rw [show (0 : Int) = ((0 : Nat) : Int) from rfl, atI_nat (by simp)]
  rfl
@[simp] theorem atI_1 {α : Type} {x y : α} {xs : List α} : L2.atI (x :: y :: xs) 1 = some y := by
  rw [show (1 : Int) = ((1 : Nat) : Int) from rfl, atI_nat (by simp)]
  rfl
@[simp] theorem atI_2 {α : Type} {x y z : α} {xs : List α} : L2.atI (x :: y :: z :: xs) 2 = some z := by
  rw [show (2 : Int) = ((2 : Nat) : Int) from rfl, atI_nat (by simp)]
  rfl
@[simp] theorem atI_3 {α : Type} {x y z u : α} {xs : List α} : L2.atI (x :: y :: z :: u :: xs) 3 = some u := by
  rw [show (3 : Int) = ((3 : Nat) : Int) from rfl, atI_nat (by simp)]
  rfl
/-- a vector of n things -/
def vecF {α : Type} (n : Nat) (f : Nat → α) : List α := (List.range n).map f
@[simp] theorem vecF_len {α : Type} {n : Nat} {f : Nat → α} : (vecF n f).length = n := by simp [vecF]
theorem vecF_get {α : Type} {n k : Nat} {f : Nat → α} (h : k < n) : (vecF n f)[k]? = some (f k) := by
  unfold vecF
  rw [List.getElem?_map, List.getElem?_range h]
  rfl
@[simp] theorem atI_vec {α : Type} {n k : Nat} {f : Nat → α} (h : k < n) : L2.atI (vecF n f) (k : Int) = some (f k) := by
  rw [atI_nat (by simpa using h), vecF_get h]
theorem vecF_congr {α : Type} {n : Nat} {f g : Nat → α} (h : ∀ i, i < n → f i = g i) : vecF n f = vecF n g :=
  List.map_congr_left fun i hi => h i (List.mem_range.mp hi)
theorem vecF_ext {α : Type} {n : Nat} {f : Nat → α} {l : List α} (h : l.length = n) (hg : ∀ i, i < n → l[i]? = some (f i)) : l = vecF n f := by
  apply List.ext_getElem?
  intro i
  by_cases hi : i < n
  · rw [hg i hi, vecF_get hi]
  · rw [List.getElem?_eq_none (by omega), List.getElem?_eq_none (by simp; omega)]
theorem vecF_set {α : Type} {n k : Nat} {f : Nat → α} {x : α} : (vecF n f).set k x = vecF n (fun i => if i = k then x else f i) := by
  refine vecF_ext (by simp) fun i hi => ?_
  rw [List.getElem?_set]
  by_cases h : k = i
  · subst h
    simp [hi]
  · rw [if_neg h, vecF_get hi, if_neg (fun e => h e.symm)]
theorem vecF_map {α β : Type} {n : Nat} {f : Nat → α} {g : α → β} : (vecF n f).map g = vecF n fun i => g (f i) := by
  unfold vecF
  rw [List.map_map]
  rfl
theorem vecF_zip {α β γ : Type} {n : Nat} {f : Nat → α} {g : Nat → β} {h : α → β → γ} : List.zipWith h (vecF n f) (vecF n g) = vecF n fun i => h (f i) (g i) := by
  refine vecF_ext (by simp) fun i hi => ?_
  rw [List.getElem?_zipWith, vecF_get hi, vecF_get hi]
theorem zip3_get : ∀ {xs ys zs : List D} {i : Nat} {x y z : D}, xs[i]? = some x → ys[i]? = some y → zs[i]? = some z → (zip3 xs ys zs)[i]? = some (.tuple [x, y, z])
  | [], _, _, _, _, _, _, h, _, _ => by simp at h
  | _ :: _, [], _, _, _, _, _, _, h, _ => by simp at h
  | _ :: _, _ :: _, [], _, _, _, _, _, _, h => by simp at h
  | a :: xs, b :: ys, c :: zs, 0, x, y, z, h1, h2, h3 => by
    simp at h1 h2 h3
    subst h1 h2 h3
    rfl
  | a :: xs, b :: ys, c :: zs, i + 1, x, y, z, h1, h2, h3 => by
    simp at h1 h2 h3
    exact zip3_get (xs := xs) (ys := ys) (zs := zs) h1 h2 h3
theorem zip3_len : ∀ {xs ys zs : List D} {n : Nat}, xs.length = n → ys.length = n → zs.length = n → (zip3 xs ys zs).length = n
  | [], _, _, _, h, _, _ => by subst h; rfl
  | _ :: _, [], _, _, h, h2, _ => by subst h2; simp at h
  | _ :: _, _ :: _, [], _, h, _, h3 => by subst h3; simp at h
  | a :: xs, b :: ys, c :: zs, n, h1, h2, h3 => by
    cases n with
    | zero => simp at h1
    | succ n => exact congrArg (· + 1) (zip3_len (xs := xs) (ys := ys) (zs := zs) (by simpa using h1) (by simpa using h2) (by simpa using h3))
theorem vecF_zip3 {n : Nat} {f g h : Nat → D} : zip3 (vecF n f) (vecF n g) (vecF n h) = vecF n fun i => .tuple [f i, g i, h i] :=
  vecF_ext (zip3_len (by simp) (by simp) (by simp)) fun i hi => zip3_get (vecF_get hi) (vecF_get hi) (vecF_get hi)
theorem vecF_enum {n : Nat} {f : Nat → D} : enumD (vecF n f) = vecF n fun i => .tuple [.int (i : Nat), f i] := by
  refine vecF_ext (by simp [enumD]) fun i hi => ?_
  unfold enumD
  rw [List.getElem?_map, List.getElem?_zipIdx, vecF_get hi]
  simp
theorem vecF_append {α : Type} {n m : Nat} {f g : Nat → α} : vecF n f ++ vecF m g = vecF (n + m) fun i => if i < n then f i else g (i - n) := by
  refine vecF_ext (by simp) fun i hi => ?_
  rw [List.getElem?_append]
  simp only [vecF_len]
  by_cases h : i < n
  · rw [if_pos h, if_pos h, vecF_get h]
  · rw [if_neg h, if_neg h, vecF_get (by omega)]
theorem vecF_succ {α : Type} {n : Nat} {f : Nat → α} : vecF (n + 1) f = vecF n f ++ [f n] := by
  unfold vecF
  rw [List.range_succ, List.map_append]
  rfl
@[simp] theorem vecF_zero {α : Type} {f : Nat → α} : vecF 0 f = [] := (rfl)
theorem d_range {n : Nat} (h : n ≤ 1000000) : dRange (.int 0) (.int (n : Int)) = some (vecF n fun i => .int (i : Nat)) := by
  unfold dRange vecF
  simp only
  rw [if_pos ⟨by decide, by decide, by omega, by omega⟩]
  simp
theorem d_range2 {a b : Nat} (h : b ≤ 1000000) (ha : a ≤ 1000000) : dRange (.int (a : Int)) (.int (b : Int)) = some (vecF (b - a) fun i => .int ((a + i : Nat) : Int)) := by
  unfold dRange vecF
  simp only
  rw [if_pos ⟨by omega, by omega, by omega, by omega⟩]
  simp only [Option.some.injEq]
  rw [show ((b : Int) - (a : Int)).toNat = b - a by omega]
  refine List.map_congr_left fun i _ => ?_
  simp
end
/-! ### loops, comprehensions -/
section
variable {vs : List Nat} {fg : D → Ev → Option Ev} {ft : MM Bool} {fe : MM D} {body : MS}
/-- a comprehension that only reads -/
theorem lcGo_map (φ : D → D) {ds : List D} {ρ : Ev} (h : ∀ d ∈ ds, ∃ ρ1, fg d (ρ.wipe vs) = some ρ1 ∧ ft ρ1 = some (true, ρ.row) ∧ fe (ρ1.wr ρ.row) = some (φ d, ρ.row)) :
    lcGo vs fg ft fe ds ρ = some (ds.map φ, ρ.row) := by
  induction ds with
  | nil => rfl
  | cons d ds ih =>
    obtain ⟨ρ1, h1, h2, h3⟩ := h d (List.mem_cons_self ..)
    unfold lcGo
    rw [h1]
    simp only
    rw [h2]
    simp only [if_true]
    rw [h3]
    simp only
    have e : ρ.wr ρ.row = ρ := rfl
    rw [e, ih fun d hd => h d (List.mem_cons_of_mem _ hd)]
    rfl
theorem lcGo_vec {n : Nat} {c φ : Nat → D} {ρ : Ev} (h : ∀ i, i < n → ∃ ρ1, fg (c i) (ρ.wipe vs) = some ρ1 ∧ ft ρ1 = some (true, ρ.row) ∧ fe (ρ1.wr ρ.row) = some (φ i, ρ.row)) :
    lcGo vs fg ft fe (vecF n c) ρ = some (vecF n φ, ρ.row) := by
  unfold vecF
  have key : ∀ l : List Nat, (∀ i ∈ l, i < n) → lcGo vs fg ft fe (l.map c) ρ = some (l.map φ, ρ.row) := by
    intro l
    induction l with
    | nil => intro _; rfl
    | cons i l ih =>
      intro hl
      obtain ⟨ρ1, h1, h2, h3⟩ := h i (hl i (List.mem_cons_self ..))
      rw [List.map_cons, List.map_cons]
      unfold lcGo
      rw [h1]
      simp only
      rw [h2]
      simp only [if_true]
      rw [h3]
      simp only
      have e : ρ.wr ρ.row = ρ := rfl
      rw [e, ih fun d hd => hl d (List.mem_cons_of_mem _ hd)]
  exact key _ fun i hi => List.mem_range.mp hi
/-- .. with a test -/
theorem lcGo_filter {n : Nat} {c φ : Nat → D} {t : Nat → Bool} {ρ : Ev} (h : ∀ i, i < n → ∃ ρ1, fg (c i) (ρ.wipe vs) = some ρ1 ∧ ft ρ1 = some (t i, ρ.row) ∧ (t i = true → fe (ρ1.wr ρ.row) = some (φ i, ρ.row))) :
    lcGo vs fg ft fe (vecF n c) ρ = some (((List.range n).filter t).map φ, ρ.row) := by
  unfold vecF
  have key : ∀ l : List Nat, (∀ i ∈ l, i < n) → lcGo vs fg ft fe (l.map c) ρ = some ((l.filter t).map φ, ρ.row) := by
    intro l
    induction l with
    | nil => intro _; rfl
    | cons i l ih =>
      intro hl
      obtain ⟨ρ1, h1, h2, h3⟩ := h i (hl i (List.mem_cons_self ..))
      have e : ρ.wr ρ.row = ρ := rfl
      rw [List.map_cons]
      unfold lcGo
      rw [h1]
      simp only
      rw [h2]
      simp only
      cases ht : t i with
      | true =>
        simp only [if_true]
        rw [h3 ht]
        simp only
        rw [e, ih fun d hd => hl d (List.mem_cons_of_mem _ hd), List.filter_cons, ht]
        rfl
      | false =>
        simp only [Bool.false_eq_true, if_false]
        rw [e, ih fun d hd => hl d (List.mem_cons_of_mem _ hd), List.filter_cons, ht]
        rfl
  exact key _ fun i hi => List.mem_range.mp hi
/-- a comprehension that draws: P holds of each thing made -/
theorem lcGo_draw {β : Type} [Inhabited β] (I : DL.Row → Prop) (P : Nat → β → Prop) (mk : β → D) {n : Nat} {c : Nat → D} {sl : List Sl} {w : DL.Row} (hw : I w)
    (h : ∀ i w, i < n → I w → ∃ ρ1 b w', fg (c i) (Ev.wipe ⟨w, sl⟩ vs) = some ρ1 ∧ ft ρ1 = some (true, w) ∧ fe (ρ1.wr w) = some (mk b, w') ∧ I w' ∧ P i b) :
    ∃ (f : Nat → β) (w' : DL.Row), lcGo vs fg ft fe (vecF n c) ⟨w, sl⟩ = some (vecF n fun i => mk (f i), w') ∧ I w' ∧ ∀ i, i < n → P i (f i) := by
  have key : ∀ (m k : Nat) (w : DL.Row), k + m = n → I w → ∃ (f : Nat → β) (w' : DL.Row), lcGo vs fg ft fe ((List.range m).map fun i => c (k + i)) ⟨w, sl⟩ = some ((List.range m).map fun i => mk (f i), w') ∧ I w' ∧ ∀ i, i < m → P (k + i) (f i) := by
    intro m
    induction m with
    | zero =>
      intro k w _ hw
      exact ⟨fun _ => default, w, rfl, hw, fun i hi => absurd hi (Nat.not_lt_zero _)⟩
    | succ m ih =>
      intro k w hk hw
      obtain ⟨ρ1, b, w1, h1, h2, h3, h4, h5⟩ := h k w (by omega) hw
      obtain ⟨f, w2, e, h6, h7⟩ := ih (k + 1) w1 (by omega) h4
      refine ⟨fun i => match i with | 0 => b | i + 1 => f i, w2, ?_, h6, ?_⟩
      · rw [List.range_succ_eq_map, List.map_cons, List.map_cons, List.map_map, List.map_map]
        unfold lcGo
        rw [show c (k + 0) = c k from rfl, h1]
        simp only
        rw [h2]
        simp only [if_true]
        rw [h3]
        simp only
        have e2 : ((fun i => c (k + i)) ∘ Nat.succ) = fun i => c (k + 1 + i) := by
          funext i
          show c (k + (i + 1)) = c (k + 1 + i)
          congr 1
          omega
        have e3 : (Ev.mk w sl).wr w1 = ⟨w1, sl⟩ := rfl
        rw [e2, e3, e]
        rfl
      · intro i hi
        cases i with
        | zero => exact h5
        | succ i =>
          have z := h7 i (by omega)
          rw [show k + (i + 1) = k + 1 + i by omega]
          exact z
  obtain ⟨f, w', e, h1, h2⟩ := key n 0 w (by omega) hw
  refine ⟨f, w', ?_, h1, fun i hi => by simpa using h2 i hi⟩
  unfold vecF
  simpa using e
/-- a loop -/
theorem forGo_inv (J : Nat → Ev → Prop) (Q : Oc → Prop) {n : Nat} {c : Nat → D} {ρ : Ev} (h0 : J 0 ρ)
    (hs : ∀ i ρ, i < n → J i ρ → ∃ ρ1, fg (c i) ρ = some ρ1 ∧ ∃ oc, body ρ1 = some oc ∧ match oc with
      | .nx ρ2 => J (i + 1) ρ2
      | .ct ρ2 => J (i + 1) ρ2
      | .bk ρ2 => Q (.nx ρ2)
      | .ret d w => Q (.ret d w))
    (he : ∀ ρ, J n ρ → Q (.nx ρ)) : ∃ oc, forGo fg body (vecF n c) ρ = some oc ∧ Q oc := by
  have key : ∀ (m k : Nat) (ρ : Ev), k + m = n → J k ρ → ∃ oc, forGo fg body ((List.range m).map fun i => c (k + i)) ρ = some oc ∧ Q oc := by
    intro m
    induction m with
    | zero =>
      intro k ρ hk hJ
      have e : k = n := by omega
      subst e
      exact ⟨_, rfl, he ρ hJ⟩
    | succ m ih =>
      intro k ρ hk hJ
      obtain ⟨ρ1, h1, oc, h2, h3⟩ := hs k ρ (by omega) hJ
      have e2 : ((fun i => c (k + i)) ∘ Nat.succ) = fun i => c (k + 1 + i) := by
        funext i
        show c (k + (i + 1)) = c (k + 1 + i)
        congr 1
        omega
      rw [List.range_succ_eq_map, List.map_cons, List.map_map, e2]
      unfold forGo
      rw [show c (k + 0) = c k from rfl, h1]
      simp only
      rw [h2]
      cases oc with
      | nx ρ2 => exact ih (k + 1) ρ2 (by omega) h3
      | ct ρ2 => exact ih (k + 1) ρ2 (by omega) h3
      | bk ρ2 => exact ⟨_, rfl, h3⟩
      | ret d w => exact ⟨_, rfl, h3⟩
  unfold vecF
  have z := key n 0 ρ (by omega) h0
  simpa using z
/-- a loop that runs to its end, each state given -/
theorem forGo_st {n : Nat} {c : Nat → D} (S : Nat → Ev) {ρ : Ev} (h0 : ρ = S 0) (hs : ∀ i, i < n → ∃ ρ1, fg (c i) (S i) = some ρ1 ∧ body ρ1 = some (.nx (S (i + 1)))) :
    forGo fg body (vecF n c) ρ = some (.nx (S n)) := by
  obtain ⟨oc, h1, h2⟩ := forGo_inv (fg := fg) (body := body) (n := n) (c := c) (ρ := ρ) (fun i ρ => ρ = S i) (fun oc => oc = .nx (S n)) h0 (fun i ρ hi hJ => by
    obtain ⟨ρ1, h1, h2⟩ := hs i hi
    subst hJ
    exact ⟨ρ1, h1, _, h2, rfl⟩) fun ρ hJ => by rw [hJ]
  rw [h1, h2]
end
theorem forGo_congr {fg : D → Ev → Option Ev} {body : MS} {ds ds' : List D} {ρ ρ' : Ev} (h1 : ds = ds') (h2 : ρ = ρ') : forGo fg body ds ρ = forGo fg body ds' ρ' := by rw [h1, h2]
theorem lcGo_congr {vs : List Nat} {fg : D → Ev → Option Ev} {ft : MM Bool} {fe : MM D} {ds ds' : List D} {ρ ρ' : Ev} (h1 : ds = ds') (h2 : ρ = ρ') : lcGo vs fg ft fe ds ρ = lcGo vs fg ft fe ds' ρ' := by rw [h1, h2]
theorem whGo_congr {ft : MM Bool} {body : MS} {n n' : Nat} {ρ ρ' : Ev} (h1 : n = n') (h2 : ρ = ρ') : whGo ft body n ρ = whGo ft body n' ρ' := by rw [h1, h2]
/-- an outcome of which Q holds -/
def wp (x : Option Oc) (Q : Oc → Prop) : Prop := ∃ oc, x = some oc ∧ Q oc
theorem wp_congr {x y : Option Oc} {Q : Oc → Prop} (h : x = y) : wp x Q = wp y Q := by rw [h]
theorem wp_some {oc : Oc} {Q : Oc → Prop} (h : Q oc) : wp (some oc) Q := ⟨_, rfl, h⟩
/-- what holds behind a statement: Qn of the state, else Q of the outcome -/
def onNx (J : Ev → Prop) (Q : Oc → Prop) : Oc → Prop
  | .nx ρ => J ρ
  | o => Q o
theorem wp_thn {x : Option Oc} {k : Ev → Option Oc} {Q : Oc → Prop} (J : Ev → Prop) (h : wp x (onNx J Q)) (hk : ∀ ρ, J ρ → wp (k ρ) Q) : wp (thn x k) Q := by
  obtain ⟨oc, rfl, h⟩ := h
  cases oc with
  | nx ρ => exact hk ρ h
  | ret d w => exact ⟨_, rfl, h⟩
  | bk ρ => exact ⟨_, rfl, h⟩
  | ct ρ => exact ⟨_, rfl, h⟩
/-- what holds behind a loop's body -/
def onBody (J : Ev → Prop) (Q : Oc → Prop) : Oc → Prop
  | .nx ρ => J ρ
  | .ct ρ => J ρ
  | .bk ρ => Q (.nx ρ)
  | .ret d w => Q (.ret d w)
theorem wp_for {fg : D → Ev → Option Ev} {body : MS} {n : Nat} {c : Nat → D} {ρ : Ev} {Q : Oc → Prop} (J : Nat → Ev → Prop) (h0 : J 0 ρ) (hs : ∀ i ρ, i < n → J i ρ → wp (onE (fg (c i) ρ) body) (onBody (J (i + 1)) Q)) (he : ∀ ρ, J n ρ → Q (.nx ρ)) :
    wp (forGo fg body (vecF n c) ρ) Q := by
  refine forGo_inv J Q h0 (fun i ρ hi hJ => ?_) he
  obtain ⟨oc, h1, h2⟩ := hs i ρ hi hJ
  cases e : fg (c i) ρ with
  | none => rw [e] at h1; cases h1
  | some ρ1 =>
    rw [e] at h1
    refine ⟨ρ1, rfl, oc, h1, ?_⟩
    cases oc <;> exact h2
theorem thn_for {fg : D → Ev → Option Ev} {body : MS} {n : Nat} {c : Nat → D} {ρ : Ev} {k : Ev → Option Oc} {R : Option Oc} (J : Nat → Ev → Prop) (h0 : J 0 ρ) (hs : ∀ i ρ, i < n → J i ρ → ∃ ρ2, onE (fg (c i) ρ) body = some (.nx ρ2) ∧ J (i + 1) ρ2) (he : ∀ ρ, J n ρ → k ρ = R) :
    thn (forGo fg body (vecF n c) ρ) k = R := by
  obtain ⟨oc, h1, ρ', h2, h3⟩ := wp_for (fg := fg) (body := body) (n := n) (c := c) (ρ := ρ) (Q := fun oc => ∃ ρ', oc = .nx ρ' ∧ J n ρ') J h0 (fun i ρ hi hJ => by
    obtain ⟨ρ2, e, h⟩ := hs i ρ hi hJ
    exact ⟨_, e, h⟩) fun ρ h => ⟨ρ, rfl, h⟩
  rw [h1, h2]
  exact he ρ' h3
theorem run_wp {g : MS} {n N : Nat} {ds : List D} {P : D → Prop} (hl : ds.length = n) (h : wp (g ⟨([], 0, 0, 0), ds.map Sl.s ++ List.replicate (N - n) .no⟩) (fun oc => match oc with
    | .ret d _ => P d
    | .nx _ => P .none
    | _ => False)) : ∃ d, runP g n N ds = some d ∧ P d := by
  obtain ⟨oc, e, h⟩ := h
  unfold runP runDef
  rw [if_pos (by simpa using hl), e]
  cases oc with
  | ret d w => exact ⟨_, rfl, h⟩
  | nx ρ => exact ⟨_, rfl, h⟩
  | bk ρ => exact h.elim
  | ct ρ => exact h.elim
end PX

namespace PX
open PySem L2 DL PG
/-! ### fractions -/
def frD (q : Rat) : D := .tuple [.int q.num, .int (q.den : Nat)]
theorem run_of {g : MS} {n N : Nat} {ds : List D} {d : D} {w : DL.Row} (hl : ds.length = n) (h : g ⟨([], 0, 0, 0), ds.map Sl.s ++ List.replicate (N - n) .no⟩ = some (.ret d w)) : runP g n N ds = some d := by
  unfold runP runDef
  rw [if_pos (by simpa using hl), h]
  rfl
theorem run_nx {g : MS} {n N : Nat} {ds : List D} {ρ : Ev} (hl : ds.length = n) (h : g ⟨([], 0, 0, 0), ds.map Sl.s ++ List.replicate (N - n) .no⟩ = some (.nx ρ)) : runP g n N ds = some .none := by
  unfold runP runDef
  rw [if_pos (by simpa using hl), h]
  rfl
theorem fmod_nat (x y : Nat) : (x : Int).fmod (y : Int) = ((x % y : Nat) : Int) := by
  rw [Int.fmod_eq_emod_of_nonneg _ (Int.natCast_nonneg y)]
  rfl
theorem e_wh {ft : MM Bool} {body : MS} {n : Nat} {ρ : Ev} : whGo ft body (n + 1) ρ = bnd (ft ρ) fun b r => cho b (match body (ρ.wr r) with
        | some (.nx ρ2) => whGo ft body n ρ2
        | some (.ct ρ2) => whGo ft body n ρ2
        | some (.bk ρ2) => some (.nx ρ2)
        | some (.ret d w) => some (.ret d w)
        | none => none) (some (.nx (ρ.wr r))) := by
  unfold bnd cho
  rw [whGo]
  dsimp only
  cases ft ρ with
  | none => rfl
  | some p => rfl
theorem common_loop {r : DL.Row} : ∀ (n x y : Nat), y < n → whGo (mTest (mOp dNe (mVarB 1) (mRet (.int 0)))) (gPar 0 1 (mBind (mVar 1) fun d => mRet (.s d)) (mBind (mOp dMod (mVarB 0) (mVarB 1)) fun d => mRet (.s d))) n ⟨r, [.s (.int (x : Nat)), .s (.int (y : Nat))]⟩ = some (.nx ⟨r, [.s (.int (Nat.gcd x y : Nat)), .s (.int 0)]⟩) := by
  intro n
  induction n with
  | zero => intro x y h; omega
  | succ n ih =>
    intro x y h
    rw [e_wh]
    by_cases hy : y = 0
    · subst hy
      simp
    · have hy' : (y : Int) ≠ 0 := by omega
      simp [hy', hy]
      rw [fmod_nat]
      have := ih y (x % y) (by have := Nat.mod_lt x (Nat.pos_of_ne_zero hy); omega)
      rw [this, Nat.gcd_comm x y, Nat.gcd_rec y x]
      rw [Nat.gcd_comm]
@[simp] theorem e_gwh {fuel : Ev → Nat} {ft : MM Bool} {g : MS} {ρ : Ev} : gWhile fuel ft g ρ = whGo ft g (fuel ρ) ρ := (rfl)
theorem F_common_eq (a b : Int) : F_common [.int a, .int b] = some (.int (Int.gcd a b : Nat)) := by
  refine run_of (w := ([], 0, 0, 0)) rfl ?_
  unfold g_common
  simp [fuel_common, common_loop]
  rfl
@[simp] theorem app_nil1 {a : D} : ([a] ++ [] : List D) = [a] := (rfl)
theorem fdiv_exact {a g : Int} (hg : g ≠ 0) (h : g ∣ a) : a.fdiv g = a / g := by
  rw [Int.fdiv_eq_ediv_of_dvd h]
/-- a reduced fraction's two parts -/
theorem fr_parts {p q : Int} (hq : q ≠ 0) : frD (Rat.divInt p q) = .tuple [.int (q.sign * (p / (Int.gcd p q : Int))), .int (q.sign * (q / (Int.gcd p q : Int)))] := by
  unfold frD
  rw [Rat.num_divInt, Rat.den_divInt, if_neg hq]
  have hg : (Int.gcd p q : Int) ≠ 0 := by
    have := Int.gcd_pos_of_ne_zero_right p hq
    omega
  have d1 : (Int.gcd p q : Int) ∣ p := Int.gcd_dvd_left ..
  have d2 : (Int.gcd p q : Int) ∣ q := Int.gcd_dvd_right ..
  rw [Int.gcd_comm q p]
  congr 3
  · rw [Int.mul_ediv_assoc _ d1]
  · have e : q.sign * (q / (Int.gcd p q : Int)) = ((q.natAbs / Int.gcd p q : Nat) : Int) := by
      rw [← Int.mul_ediv_assoc _ d2, Int.sign_mul_self]
      rfl
    rw [e]
/-- sizes in bits -/
def Sz (n : Nat) (q : Rat) : Prop := q.num.natAbs < 2 ^ n ∧ q.den < 2 ^ n
theorem log2_lt' {a n : Nat} (h : a < 2 ^ n) : a.log2 ≤ n := by
  by_cases h0 : a = 0
  · subst h0; simp
  · have := (Nat.log2_lt h0).mpr h
    omega
theorem mulOk_of {i j : Int} {m n : Nat} (hi : i.natAbs < 2 ^ m) (hj : j.natAbs < 2 ^ n) (h : m + n < 134000000) : mulOk i j = true := by
  unfold mulOk
  have h1 := log2_lt' hi
  have h2 := log2_lt' hj
  exact decide_eq_true (by omega)
theorem Sz.mono {m n : Nat} {q : Rat} (h : Sz m q) (hn : m ≤ n) : Sz n q := by
  have := Nat.pow_le_pow_right (n := 2) (by decide) hn
  exact ⟨by have := h.1; omega, by have := h.2; omega⟩
theorem Sz.divInt {n : Nat} {p q : Int} (hp : p.natAbs < 2 ^ n) (hq : q.natAbs < 2 ^ n) (h0 : q ≠ 0) : Sz n (Rat.divInt p q) := by
  have hg : 0 < Int.gcd p q := Int.gcd_pos_of_ne_zero_right p h0
  have d1 : (Int.gcd p q : Int) ∣ p := Int.gcd_dvd_left ..
  refine ⟨?_, ?_⟩
  · rw [Rat.num_divInt, Int.gcd_comm q p, Int.mul_ediv_assoc _ d1, Int.natAbs_mul]
    have h1 : q.sign.natAbs ≤ 1 := by
      rcases Int.lt_trichotomy q 0 with z | z | z
      · rw [Int.sign_eq_neg_one_of_neg z]; decide
      · subst z; decide
      · rw [Int.sign_eq_one_of_pos z]; decide
    have h2 : (p / (Int.gcd p q : Int)).natAbs ≤ p.natAbs := by
      rw [Int.natAbs_ediv_of_dvd d1]
      exact Nat.div_le_self _ _
    have := Nat.mul_le_mul h1 h2
    omega
  · rw [Rat.den_divInt, if_neg h0, Int.gcd_comm q p]
    have := Nat.div_le_self q.natAbs (Int.gcd p q)
    omega
theorem F_fraction_eq {p q : Int} (hq : q ≠ 0) : F_fraction [.int p, .int q] = some (frD (Rat.divInt p q)) := by
  have hg : 0 < Int.gcd p q := Int.gcd_pos_of_ne_zero_right p hq
  have hg' : (Int.gcd p q : Int) ≠ 0 := by omega
  have d1 : (Int.gcd p q : Int) ∣ p := Int.gcd_dvd_left ..
  have d2 : (Int.gcd p q : Int) ∣ q := Int.gcd_dvd_right ..
  rw [fr_parts hq]
  have hs : (q / (Int.gcd p q : Int) < 0) ↔ q < 0 := by
    constructor
    · intro h
      rcases Int.lt_or_le q 0 with z | z
      · exact z
      · have := Int.ediv_nonneg z (show (0 : Int) ≤ (Int.gcd p q : Int) by omega)
        omega
    · intro h
      exact Int.ediv_neg_of_neg_of_pos h (by omega)
  have hc := F_common_eq p q
  have e1 := fdiv_exact hg' d1
  have e2 := fdiv_exact hg' d2
  generalize (Int.gcd p q : Int) = g at *
  refine run_of (w := ([], 0, 0, 0)) rfl ?_
  unfold g_fraction
  simp [hc, hg', e1, e2]
  by_cases h : q < 0
  · rw [decide_eq_true (hs.mpr h)]
    simp [Int.sign_eq_neg_one_of_neg h]
  · rw [decide_eq_false (fun z => h (hs.mp z))]
    have h2 : 0 < q := by omega
    simp [Int.sign_eq_one_of_pos h2]
theorem nat_sub0 (x : Int) : max x (0 - x) = (x.natAbs : Int) := by
  rw [Int.max_def]
  split <;> omega
/-! the four operations -/
theorem den_ne (q : Rat) : (q.den : Int) ≠ 0 := by
  have := q.den_nz
  omega
theorem pow_lt_mul {a b m n : Nat} (h1 : a < 2 ^ m) (h2 : b < 2 ^ n) : a * b < 2 ^ (m + n) := by
  rw [Nat.pow_add]
  exact Nat.mul_lt_mul'' h1 h2
theorem add_eq (a b : Rat) : a + b = Rat.divInt (a.num * b.den + b.num * a.den) ((a.den : Int) * b.den) := by
  rw [Rat.add_def', ← Rat.divInt_ofNat]
  rfl
theorem sub_eq (a b : Rat) : a - b = Rat.divInt (a.num * b.den - b.num * a.den) ((a.den : Int) * b.den) := by
  rw [Rat.sub_def', ← Rat.divInt_ofNat]
  rfl
theorem mul_eq (a b : Rat) : a * b = Rat.divInt (a.num * b.num) ((a.den : Int) * b.den) := by
  rw [Rat.mul_def', ← Rat.divInt_ofNat]
  rfl
theorem div_eq (a b : Rat) : a / b = Rat.divInt (a.num * b.den) (a.den * b.num) := by
  rw [Rat.div_def, Rat.inv_def]
  conv => lhs; rw [← Rat.num_divInt_den a]
  rw [Rat.divInt_mul_divInt]
theorem Sz.add {m n : Nat} {a b : Rat} (ha : Sz m a) (hb : Sz n b) : Sz (m + n + 1) (a + b) := by
  rw [add_eq]
  have h1 := pow_lt_mul ha.1 hb.2
  have h2 := pow_lt_mul hb.1 ha.2
  have h3 := pow_lt_mul ha.2 hb.2
  rw [Nat.add_comm n m] at h2
  have e : 2 ^ (m + n + 1) = 2 ^ (m + n) + 2 ^ (m + n) := by rw [Nat.pow_succ]; omega
  refine Sz.divInt ?_ ?_ (Int.mul_ne_zero (den_ne a) (den_ne b))
  · have z := Int.natAbs_add_le (a.num * b.den) (b.num * a.den)
    rw [Int.natAbs_mul, Int.natAbs_mul, Int.natAbs_natCast, Int.natAbs_natCast] at z
    omega
  · rw [Int.natAbs_mul, Int.natAbs_natCast, Int.natAbs_natCast]
    omega
theorem Sz.neg {m : Nat} {a : Rat} (ha : Sz m a) : Sz m (-a) := ⟨by rw [Rat.neg_num, Int.natAbs_neg]; exact ha.1, by rw [Rat.neg_den]; exact ha.2⟩
theorem Sz.sub {m n : Nat} {a b : Rat} (ha : Sz m a) (hb : Sz n b) : Sz (m + n + 1) (a - b) := by
  rw [Rat.sub_eq_add_neg]
  exact ha.add hb.neg
theorem Sz.mul {m n : Nat} {a b : Rat} (ha : Sz m a) (hb : Sz n b) : Sz (m + n) (a * b) := by
  rw [mul_eq]
  have h1 := pow_lt_mul ha.1 hb.1
  have h3 := pow_lt_mul ha.2 hb.2
  refine Sz.divInt ?_ ?_ (Int.mul_ne_zero (den_ne a) (den_ne b))
  · rw [Int.natAbs_mul]; exact h1
  · rw [Int.natAbs_mul, Int.natAbs_natCast, Int.natAbs_natCast]; exact h3
theorem num_ne {b : Rat} (h : b ≠ 0) : b.num ≠ 0 := fun z => h (Rat.num_eq_zero.mp z)
theorem Sz.div {m n : Nat} {a b : Rat} (ha : Sz m a) (hb : Sz n b) (h : b ≠ 0) : Sz (m + n) (a / b) := by
  rw [div_eq]
  have h1 := pow_lt_mul ha.1 hb.2
  have h3 := pow_lt_mul ha.2 hb.1
  refine Sz.divInt ?_ ?_ (Int.mul_ne_zero (den_ne a) (num_ne h))
  · rw [Int.natAbs_mul, Int.natAbs_natCast]; exact h1
  · rw [Int.natAbs_mul, Int.natAbs_natCast]; exact h3
theorem Sz.int {n : Nat} {i : Int} (h : i.natAbs < 2 ^ n) (h1 : 1 ≤ n) : Sz n (i : Rat) := by
  refine ⟨h, ?_⟩
  show 1 < 2 ^ n
  have := Nat.pow_le_pow_right (n := 2) (by decide) h1
  omega
theorem Sz.nd {n : Nat} {q : Rat} (h : Sz n q) : (q.den : Int).natAbs < 2 ^ n := h.2
section
variable {a b : Rat} {m n : Nat}
theorem F_plus_eq (ha : Sz m a) (hb : Sz n b) (h : m + n < 134000000) : F_plus [frD a, frD b] = some (frD (a + b)) := by
  have h1 := mulOk_of ha.1 hb.nd h
  have h2 := mulOk_of hb.1 ha.nd (by omega)
  have h3 := mulOk_of ha.nd hb.nd h
  have hf := F_fraction_eq (p := a.num * b.den + b.num * a.den) (q := (a.den : Int) * b.den) (Int.mul_ne_zero (den_ne a) (den_ne b))
  rw [← add_eq] at hf
  refine run_of (w := ([], 0, 0, 0)) rfl ?_
  unfold g_plus
  simp [h1, h2, h3, hf, frD]
theorem F_less_eq (ha : Sz m a) (hb : Sz n b) (h : m + n < 134000000) : F_less [frD a, frD b] = some (frD (a - b)) := by
  have h1 := mulOk_of ha.1 hb.nd h
  have h2 := mulOk_of hb.1 ha.nd (by omega)
  have h3 := mulOk_of ha.nd hb.nd h
  have hf := F_fraction_eq (p := a.num * b.den - b.num * a.den) (q := (a.den : Int) * b.den) (Int.mul_ne_zero (den_ne a) (den_ne b))
  rw [← sub_eq] at hf
  refine run_of (w := ([], 0, 0, 0)) rfl ?_
  unfold g_less
  simp [h1, h2, h3, hf, frD]
theorem F_times_eq (ha : Sz m a) (hb : Sz n b) (h : m + n < 134000000) : F_times [frD a, frD b] = some (frD (a * b)) := by
  have h1 := mulOk_of ha.1 hb.1 h
  have h3 := mulOk_of ha.nd hb.nd h
  have hf := F_fraction_eq (p := a.num * b.num) (q := (a.den : Int) * b.den) (Int.mul_ne_zero (den_ne a) (den_ne b))
  rw [← mul_eq] at hf
  refine run_of (w := ([], 0, 0, 0)) rfl ?_
  unfold g_times
  simp [h1, h3, hf, frD]
theorem F_over_eq (ha : Sz m a) (hb : Sz n b) (h : m + n < 134000000) (h0 : b ≠ 0) : F_over [frD a, frD b] = some (frD (a / b)) := by
  have h1 := mulOk_of ha.1 hb.nd h
  have h3 := mulOk_of ha.nd hb.1 h
  have hf := F_fraction_eq (p := a.num * b.den) (q := (a.den : Int) * b.num) (Int.mul_ne_zero (den_ne a) (num_ne h0))
  rw [← div_eq] at hf
  refine run_of (w := ([], 0, 0, 0)) rfl ?_
  unfold g_over
  simp [h1, h3, hf, frD]
end
/-! the law's own -/
theorem fr_loop {r : DL.Row} {u v : Sl} : ∀ (n x y : Nat), y < n → whGo (mTest (mOp dNe (mVarB 3) (mRet (.int 0)))) (gPar 2 3 (mBind (mVar 3) fun d => mRet (.s d)) (mBind (mOp dMod (mVarB 2) (mVarB 3)) fun d => mRet (.s d))) n ⟨r, [u, v, .s (.int (x : Nat)), .s (.int (y : Nat))]⟩ = some (.nx ⟨r, [u, v, .s (.int (Nat.gcd x y : Nat)), .s (.int 0)]⟩) := by
  intro n
  induction n with
  | zero => intro x y h; omega
  | succ n ih =>
    intro x y h
    rw [e_wh]
    by_cases hy : y = 0
    · subst hy
      simp
    · have hy' : (y : Int) ≠ 0 := by omega
      simp [hy', hy]
      rw [fmod_nat]
      have := ih y (x % y) (by have := Nat.mod_lt x (Nat.pos_of_ne_zero hy); omega)
      rw [this, Nat.gcd_comm x y, Nat.gcd_rec y x]
      rw [Nat.gcd_comm]
theorem F_law_fr_eq {p q : Int} (hq : q ≠ 0) : F_law_fr [.int p, .int q] = some (frD (Rat.divInt p q)) := by
  have hg : 0 < Int.gcd p q := Int.gcd_pos_of_ne_zero_right p hq
  have hg' : (Int.gcd p q : Int) ≠ 0 := by omega
  have d1 : (Int.gcd p q : Int) ∣ p := Int.gcd_dvd_left ..
  have d2 : (Int.gcd p q : Int) ∣ q := Int.gcd_dvd_right ..
  have e1 := fdiv_exact hg' d1
  have e2 := fdiv_exact hg' d2
  have d1' : -(Int.gcd p q : Int) ∣ p := Int.neg_dvd.mpr d1
  have d2' : -(Int.gcd p q : Int) ∣ q := Int.neg_dvd.mpr d2
  have n1 : -(Int.gcd p q : Int) ≠ 0 := by omega
  have e3 := fdiv_exact n1 d1'
  have e4 := fdiv_exact n1 d2'
  have hl := fr_loop (r := ([], 0, 0, 0)) (u := .s (.int p)) (v := .s (.int q)) (q.natAbs + 1) p.natAbs q.natAbs (by omega)
  rw [show ((Nat.gcd p.natAbs q.natAbs : Nat) : Int) = (Int.gcd p q : Int) from rfl] at hl
  rw [fr_parts hq]
  generalize (Int.gcd p q : Int) = g at *
  refine run_of (w := ([], 0, 0, 0)) rfl ?_
  unfold g_law_fr
  simp only [e_seq, e_gpar, e_bind, e_op, e_varB, e_get, List.map, List.replicate, List.cons_append, List.nil_append, List.getD_cons_zero, List.getD_cons_succ, slB_s, e_oS, bnd_some, e_wr, e_ret, d_sub, d_max2, nat_sub0, e_set, List.set_cons_zero, List.set_cons_succ, thn_nx]
  simp only [e_gwh, fuel_law_fr, e_get, List.getD_cons_zero, List.getD_cons_succ, Int.natAbs_natCast]
  rw [hl]
  by_cases h : 0 < q
  · simp [h, hg', e1, e2, Int.sign_eq_one_of_pos h]
  · have h2 : q < 0 := by omega
    simp [h, hg', n1, e3, e4, Int.sign_eq_neg_one_of_neg h2]
section
variable {a b : Rat} {m n : Nat}
theorem F_law_plus_eq (ha : Sz m a) (hb : Sz n b) (h : m + n < 134000000) : F_law_plus [frD a, frD b] = some (frD (a + b)) := by
  have h1 := mulOk_of ha.1 hb.nd h
  have h2 := mulOk_of hb.1 ha.nd (by omega)
  have h3 := mulOk_of ha.nd hb.nd h
  have hf := F_law_fr_eq (p := a.num * b.den + b.num * a.den) (q := (a.den : Int) * b.den) (Int.mul_ne_zero (den_ne a) (den_ne b))
  rw [← add_eq] at hf
  refine run_of (w := ([], 0, 0, 0)) rfl ?_
  unfold g_law_plus
  simp [h1, h2, h3, hf, frD]
theorem F_law_times_eq (ha : Sz m a) (hb : Sz n b) (h : m + n < 134000000) : F_law_times [frD a, frD b] = some (frD (a * b)) := by
  have h1 := mulOk_of ha.1 hb.1 h
  have h3 := mulOk_of ha.nd hb.nd h
  have hf := F_law_fr_eq (p := a.num * b.num) (q := (a.den : Int) * b.den) (Int.mul_ne_zero (den_ne a) (den_ne b))
  rw [← mul_eq] at hf
  refine run_of (w := ([], 0, 0, 0)) rfl ?_
  unfold g_law_times
  simp [h1, h3, hf, frD]
theorem F_law_less_eq (ha : Sz m a) (hb : Sz n b) (h : m + n < 134000000) : F_law_less [frD a, frD b] = some (frD (a - b)) := by
  have hf := F_law_plus_eq ha hb.neg h
  rw [← Rat.sub_eq_add_neg] at hf
  refine run_of (w := ([], 0, 0, 0)) rfl ?_
  unfold g_law_less
  simp [frD] at hf ⊢
  rw [hf]
  rfl
theorem F_law_below_eq (ha : Sz m a) (hb : Sz n b) (h : m + n < 134000000) : F_law_below [frD a, frD b] = some (.bool (decide (a < b))) := by
  have h1 := mulOk_of ha.1 hb.nd h
  have h2 := mulOk_of hb.1 ha.nd (by omega)
  refine run_of (w := ([], 0, 0, 0)) rfl ?_
  unfold g_law_below
  simp [h1, h2, frD, Rat.lt_iff]
end
end PX

namespace PX
/-! ### finite sums of rationals -/
def sumN : Nat → (Nat → Rat) → Rat
  | 0, _ => 0
  | n + 1, f => sumN n f + f n
theorem sumN_congr {n : Nat} {f g : Nat → Rat} (h : ∀ i, i < n → f i = g i) : sumN n f = sumN n g := by
  induction n with
  | zero => rfl
  | succ n ih =>
    show sumN n f + f n = sumN n g + g n
    rw [ih fun i hi => h i (by omega), h n (by omega)]
theorem sumN_zero {n : Nat} {f : Nat → Rat} (h : ∀ i, i < n → f i = 0) : sumN n f = 0 := by
  induction n with
  | zero => rfl
  | succ n ih =>
    show sumN n f + f n = 0
    rw [ih fun i hi => h i (by omega), h n (by omega), Rat.add_zero]
theorem sumN_add {n : Nat} {f g : Nat → Rat} : sumN n (fun i => f i + g i) = sumN n f + sumN n g := by
  induction n with
  | zero => show (0 : Rat) = 0 + 0; rw [Rat.add_zero]
  | succ n ih =>
    show sumN n (fun i => f i + g i) + (f n + g n) = (sumN n f + f n) + (sumN n g + g n)
    rw [ih]
    grind
theorem sumN_mul {n : Nat} {f : Nat → Rat} {c : Rat} : sumN n (fun i => c * f i) = c * sumN n f := by
  induction n with
  | zero => show (0 : Rat) = c * 0; rw [Rat.mul_zero]
  | succ n ih =>
    show sumN n (fun i => c * f i) + c * f n = c * (sumN n f + f n)
    rw [ih]
    grind
theorem sumN_mul_right {n : Nat} {f : Nat → Rat} {c : Rat} : sumN n (fun i => f i * c) = sumN n f * c := by
  rw [Rat.mul_comm, ← sumN_mul]
  exact sumN_congr fun i _ => Rat.mul_comm _ _
theorem sumN_neg {n : Nat} {f : Nat → Rat} : sumN n (fun i => - f i) = - sumN n f := by
  have h := sumN_mul (n := n) (f := f) (c := -1)
  have e : sumN n (fun i => - f i) = sumN n (fun i => -1 * f i) := sumN_congr fun i _ => by grind
  rw [e, h]
  grind
theorem sumN_sub {n : Nat} {f g : Nat → Rat} : sumN n (fun i => f i - g i) = sumN n f - sumN n g := by
  have e : sumN n (fun i => f i - g i) = sumN n (fun i => f i + - g i) := sumN_congr fun i _ => by grind
  rw [e, sumN_add, sumN_neg]
  grind
theorem sumN_comm {n m : Nat} {f : Nat → Nat → Rat} : sumN n (fun i => sumN m fun j => f i j) = sumN m fun j => sumN n fun i => f i j := by
  induction n with
  | zero =>
    show (0 : Rat) = _
    rw [sumN_zero]
    intro j _
    rfl
  | succ n ih =>
    show sumN n (fun i => sumN m fun j => f i j) + sumN m (fun j => f n j) = sumN m fun j => (sumN n fun i => f i j) + f n j
    rw [ih, sumN_add]
theorem sumN_nonneg {n : Nat} {f : Nat → Rat} (h : ∀ i, i < n → 0 ≤ f i) : 0 ≤ sumN n f := by
  induction n with
  | zero => exact Rat.le_refl
  | succ n ih =>
    have h1 := ih fun i hi => h i (by omega)
    have h2 := h n (by omega)
    show 0 ≤ sumN n f + f n
    exact Rat.add_nonneg h1 h2
theorem sumN_split {n m : Nat} {f : Nat → Rat} : sumN (n + m) f = sumN n f + sumN m fun j => f (n + j) := by
  induction m with
  | zero => show sumN n f = sumN n f + 0; rw [Rat.add_zero]
  | succ m ih =>
    show sumN (n + m) f + f (n + m) = sumN n f + (sumN m (fun j => f (n + j)) + f (n + m))
    rw [ih]
    grind
/-- a sum with one term -/
theorem sumN_one {n a : Nat} {f : Nat → Rat} (ha : a < n) (h : ∀ i, i < n → i ≠ a → f i = 0) : sumN n f = f a := by
  induction n with
  | zero => omega
  | succ n ih =>
    show sumN n f + f n = f a
    by_cases e : a = n
    · subst e
      rw [sumN_zero fun i hi => h i (by omega) (by omega), Rat.zero_add]
    · rw [ih (by omega) fun i hi hn => h i (by omega) hn, h n (by omega) (fun z => e z.symm), Rat.add_zero]
theorem sumN_pos {n a : Nat} {f : Nat → Rat} (ha : a < n) (h : ∀ i, i < n → 0 ≤ f i) (hp : 0 < f a) : 0 < sumN n f := by
  induction n with
  | zero => omega
  | succ n ih =>
    show 0 < sumN n f + f n
    by_cases e : a = n
    · subst e
      have := sumN_nonneg (n := a) (f := f) fun i hi => h i (by omega)
      grind
    · have h1 := ih (by omega) fun i hi => h i (by omega)
      have h2 := h n (by omega)
      grind
/-! ### tables: the pivot step -/
abbrev Tab := Nat → Nat → Rat
def swapR (T : Tab) (a p : Nat) : Tab := fun i => if i = p then T a else if i = a then T p else T i
def normR (T : Tab) (a : Nat) : Tab := fun i j => if i = a then T a j / T a a else T i j
def elimR (T : Tab) (a : Nat) : Tab := fun i j => if i = a then T a j else T i j - T i a * T a j
def stepR (T : Tab) (a p : Nat) : Tab := elimR (normR (swapR T a p) a) a
/-- what a table's rows send to nought -/
def Ker (n w : Nat) (T : Tab) (z : Nat → Rat) : Prop := ∀ i, i < n → sumN w (fun j => T i j * z j) = 0
theorem ker_swap {n w a p : Nat} {T : Tab} {z : Nat → Rat} (ha : a < n) (hp : p < n) : Ker n w (swapR T a p) z ↔ Ker n w T z := by
  have one : ∀ T : Tab, Ker n w T z → Ker n w (swapR T a p) z := fun T h i hi => by
    unfold swapR
    by_cases h1 : i = p
    · simp only [h1, if_true]
      exact h a ha
    · by_cases h2 : i = a
      · simp only [h1, h2, if_false, if_true]
        split
        · exact h a ha
        · exact h p hp
      · simp only [h1, h2, if_false]
        exact h i hi
  refine ⟨fun h => ?_, one T⟩
  have z := one _ h
  have e : swapR (swapR T a p) a p = T := by
    funext i
    unfold swapR
    by_cases h1 : i = p
    · subst h1
      by_cases h2 : a = i
      · subst h2; simp
      · simp [h2]
    · by_cases h2 : i = a
      · subst h2; simp [h1]
      · simp [h1, h2]
  rw [e] at z
  exact z
theorem ker_norm {n w a : Nat} {T : Tab} {z : Nat → Rat} (h0 : T a a ≠ 0) : Ker n w (normR T a) z ↔ Ker n w T z := by
  have e : ∀ i, sumN w (fun j => normR T a i j * z j) = if i = a then (T a a)⁻¹ * sumN w (fun j => T a j * z j) else sumN w fun j => T i j * z j := fun i => by
    unfold normR
    by_cases h : i = a
    · simp only [h, if_true]
      rw [← sumN_mul]
      exact sumN_congr fun j _ => by rw [Rat.div_def]; grind
    · simp only [h, if_false]
  refine ⟨fun h i hi => ?_, fun h i hi => ?_⟩
  · have q := h i hi
    rw [e] at q
    by_cases hia : i = a
    · rw [if_pos hia] at q
      subst hia
      rcases Rat.mul_eq_zero.mp q with q | q
      · have := Rat.mul_inv_cancel _ h0
        rw [q, Rat.mul_zero] at this
        exact absurd this (by decide)
      · exact q
    · rw [if_neg hia] at q; exact q
  · rw [e]
    by_cases hia : i = a
    · rw [if_pos hia]
      subst hia
      rw [h i hi, Rat.mul_zero]
    · rw [if_neg hia]; exact h i hi
theorem ker_elim {n w a : Nat} {T : Tab} {z : Nat → Rat} (ha : a < n) : Ker n w (elimR T a) z ↔ Ker n w T z := by
  have e : ∀ i, sumN w (fun j => elimR T a i j * z j) = if i = a then sumN w (fun j => T a j * z j) else sumN w (fun j => T i j * z j) - T i a * sumN w (fun j => T a j * z j) := fun i => by
    unfold elimR
    by_cases h : i = a
    · simp only [h, if_true]
    · simp only [h, if_false]
      rw [← sumN_mul, ← sumN_sub]
      exact sumN_congr fun j _ => by grind
  refine ⟨fun h i hi => ?_, fun h i hi => ?_⟩
  · have qa := h a ha
    rw [e, if_pos rfl] at qa
    have q := h i hi
    rw [e] at q
    by_cases hia : i = a
    · subst hia; exact qa
    · rw [if_neg hia, qa] at q
      grind
  · rw [e]
    by_cases hia : i = a
    · rw [if_pos hia]; exact h a ha
    · rw [if_neg hia, h i hi, h a ha]
      grind
/-- the first a columns are unit -/
def UnitTo (n a : Nat) (T : Tab) : Prop := ∀ i j, i < n → j < a → T i j = if i = j then 1 else 0
theorem step_ker {n w a p : Nat} {T : Tab} {z : Nat → Rat} (ha : a < n) (hp : p < n) (h0 : T p a ≠ 0) : Ker n w (stepR T a p) z ↔ Ker n w T z := by
  unfold stepR
  rw [ker_elim ha, ker_norm, ker_swap ha hp]
  unfold swapR
  by_cases h : a = p
  · subst h; simpa using h0
  · simpa [h] using h0
theorem step_unit {n a p : Nat} {T : Tab} (ha : a < n) (hap : a ≤ p) (hp : p < n) (h0 : T p a ≠ 0) (U : UnitTo n a T) : UnitTo n (a + 1) (stepR T a p) := by
  have hs : ∀ i, (swapR T a p) i = if i = p then T a else if i = a then T p else T i := fun i => rfl
  have haa : swapR T a p a = T p := by
    rw [hs]
    by_cases h : a = p
    · subst h; simp
    · simp [h]
  have hz : ∀ j, j < a → T p j = 0 := fun j hj => by rw [U p j hp hj, if_neg (by omega)]
  have Us : ∀ i j, i < n → j < a → swapR T a p i j = if i = j then 1 else 0 := fun i j hi hj => by
    rw [hs]
    by_cases h1 : i = p
    · rw [if_pos h1, U a j ha hj, if_neg (by omega), if_neg (by omega)]
    · rw [if_neg h1]
      by_cases h2 : i = a
      · rw [if_pos h2, hz j hj, if_neg (by omega)]
      · rw [if_neg h2, U i j hi hj]
  have hinv := Rat.mul_inv_cancel _ h0
  intro i j hi hj
  unfold stepR elimR normR
  by_cases hja : j = a
  · subst hja
    by_cases hia : i = j
    · simp only [hia, if_true]
      rw [haa, Rat.div_def, hinv]
    · simp only [hia, if_false, if_true]
      rw [haa, Rat.div_def, hinv]
      grind
  · have hj' : j < a := by omega
    by_cases hia : i = a
    · simp only [hia, if_true]
      rw [haa, hz j hj', Rat.div_def, Rat.zero_mul, if_neg (by omega)]
    · simp only [hia, if_false, if_true]
      rw [haa, hz j hj', Us i j hi hj', Rat.div_def, Rat.zero_mul, Rat.mul_zero]
      grind
/-- no pivot: a null vector -/
theorem no_pivot {n w a : Nat} {T : Tab} (ha : a < n) (hw : n ≤ w) (U : UnitTo n a T) (h : ∀ i, a ≤ i → i < n → T i a = 0) : ∃ z : Nat → Rat, z a ≠ 0 ∧ (∀ j, n ≤ j → z j = 0) ∧ Ker n w T z := by
  refine ⟨fun j => if j < a then - T j a else if j = a then 1 else 0, ?_, fun j hj => ?_, fun i hi => ?_⟩
  · simp only [Nat.lt_irrefl, if_false, if_true]
    decide
  · show (if j < a then - T j a else if j = a then 1 else 0) = (0 : Rat)
    rw [if_neg (by omega), if_neg (by omega)]
  · obtain ⟨m, rfl⟩ : ∃ m, w = (a + 1) + m := ⟨w - (a + 1), by omega⟩
    rw [sumN_split]
    rw [sumN_zero (n := m)]
    · show (sumN a _ + _) + 0 = 0
      simp only [Nat.lt_irrefl, if_false, if_true]
      have e : sumN a (fun j => T i j * (if j < a then - T j a else if j = a then 1 else 0)) = sumN a (fun j => if i = j then - T j a else 0) := sumN_congr fun j hj => by
        rw [if_pos hj, U i j hi hj]
        by_cases hij : i = j
        · simp only [hij, if_true]; grind
        · simp only [hij, if_false]; grind
      rw [e]
      by_cases hia : i < a
      · rw [sumN_one hia fun j hj hn => if_neg fun z => hn z.symm]
        simp only [if_true]
        grind
      · rw [sumN_zero fun j hj => if_neg (by omega), h i (by omega) hi]
        grind
    · intro j _
      show T i (a + 1 + j) * (if a + 1 + j < a then - T (a + 1 + j) a else if a + 1 + j = a then 1 else 0) = 0
      rw [if_neg (by omega), if_neg (by omega), Rat.mul_zero]
/-- at the end: the solutions -/
theorem unit_sol {n m s : Nat} {T : Tab} (hs : s < m) (U : UnitTo n n T) (x : Nat → Rat) : Ker n (n + m) T (fun j => if j < n then x j else if j = n + s then -1 else 0) ↔ ∀ i, i < n → x i = T i (n + s) := by
  have e : ∀ i, i < n → sumN (n + m) (fun j => T i j * (if j < n then x j else if j = n + s then -1 else 0)) = x i - T i (n + s) := fun i hi => by
    rw [sumN_split]
    have e1 : sumN n (fun j => T i j * (if j < n then x j else if j = n + s then -1 else 0)) = x i := by
      rw [sumN_one hi]
      · rw [if_pos hi, U i i hi hi, if_pos rfl, Rat.one_mul]
      · intro j hj hn
        rw [U i j hi hj, if_neg (fun z => hn z.symm), Rat.zero_mul]
    have e2 : sumN m (fun j => T i (n + j) * (if n + j < n then x (n + j) else if n + j = n + s then -1 else 0)) = - T i (n + s) := by
      rw [sumN_one hs]
      · rw [if_neg (by omega), if_pos rfl]
        grind
      · intro j hj hn
        rw [if_neg (by omega), if_neg (by omega), Rat.mul_zero]
    rw [e1, e2]
    grind
  refine ⟨fun h i hi => ?_, fun h i hi => ?_⟩
  · have q := h i hi
    rw [e i hi] at q
    grind
  · rw [e i hi, h i hi]
    grind
theorem ker_sol {n m s : Nat} {R S : Tab} (hs : s < m) (x : Nat → Rat) : Ker n (n + m) (fun i j => if j < n then R i j else S (j - n) i) (fun j => if j < n then x j else if j = n + s then -1 else 0) ↔ ∀ i, i < n → sumN n (fun j => R i j * x j) = S s i := by
  have e : ∀ i, i < n → sumN (n + m) (fun j => (if j < n then R i j else S (j - n) i) * (if j < n then x j else if j = n + s then -1 else 0)) = sumN n (fun j => R i j * x j) - S s i := fun i hi => by
    rw [sumN_split]
    have e1 : sumN n (fun j => (if j < n then R i j else S (j - n) i) * (if j < n then x j else if j = n + s then -1 else 0)) = sumN n (fun j => R i j * x j) := sumN_congr fun j hj => by simp only [if_pos hj]
    have e2 : sumN m (fun j => (if n + j < n then R i (n + j) else S (n + j - n) i) * (if n + j < n then x (n + j) else if n + j = n + s then -1 else 0)) = - S s i := by
      rw [sumN_one hs]
      · rw [if_neg (by omega), if_neg (by omega), if_pos rfl, Nat.add_sub_cancel_left]
        grind
      · intro j hj hn
        rw [if_neg (by omega), if_neg (by omega), if_neg (by omega), Rat.mul_zero]
    rw [e1, e2]
    grind
  refine ⟨fun h i hi => ?_, fun h i hi => ?_⟩
  · have q := h i hi
    rw [e i hi] at q
    grind
  · rw [e i hi, h i hi]
    grind
/-- .. of a null vector -/
theorem ker_null {n m : Nat} {R S : Tab} {z : Nat → Rat} (hz : ∀ j, n ≤ j → z j = 0) (h : Ker n (n + m) (fun i j => if j < n then R i j else S (j - n) i) z) : ∀ i, i < n → sumN n (fun j => R i j * z j) = 0 := by
  intro i hi
  have q := h i hi
  rw [sumN_split] at q
  rw [sumN_zero (n := m) (fun j _ => by rw [hz _ (by omega), Rat.mul_zero]), Rat.add_zero] at q
  rw [← q]
  exact sumN_congr fun j hj => by simp only [if_pos hj]
end PX

namespace PX
open PySem L2 DL PG
/-! ### vectors -/
/-- x holds the things f 0 .. f (n - 1) -/
abbrev Its (x : D) (n : Nat) (f : Nat → D) : Prop := dItems x = some (vecF n f)
def vL (n : Nat) (v : Nat → Rat) : D := .list (vecF n fun i => frD (v i))
def vT (n : Nat) (v : Nat → Rat) : D := .tuple (vecF n fun i => frD (v i))
def iL (n : Nat) (v : Nat → Int) : D := .list (vecF n fun i => .int (v i))
def iT (n : Nat) (v : Nat → Int) : D := .tuple (vecF n fun i => .int (v i))
theorem its_vL {n : Nat} {v : Nat → Rat} : Its (vL n v) n fun i => frD (v i) := rfl
theorem its_vT {n : Nat} {v : Nat → Rat} : Its (vT n v) n fun i => frD (v i) := rfl
theorem its_iL {n : Nat} {v : Nat → Int} : Its (iL n v) n fun i => .int (v i) := rfl
theorem its_iT {n : Nat} {v : Nat → Int} : Its (iT n v) n fun i => .int (v i) := rfl
theorem zp2_its {x y : D} {n : Nat} {f g : Nat → D} (hx : Its x n f) (hy : Its y n g) : zp2 x y = some (vecF n fun i => .tuple [f i, g i]) := by
  unfold zp2
  rw [hx, hy]
  simp only [vecF_zip]
theorem zp3_its {x y z : D} {n : Nat} {f g h : Nat → D} (hx : Its x n f) (hy : Its y n g) (hz : Its z n h) : zp3 x y z = some (vecF n fun i => .tuple [f i, g i, h i]) := by
  unfold zp3
  rw [hx, hy, hz]
  simp only [vecF_zip3]
theorem ix_its {x : D} {n k : Nat} {f : Nat → D} (hx : Its x n f) (h : k < n) : dIx x (.int (k : Int)) = some (f k) := by
  cases x with
  | list ds =>
    rw [d_ixL]
    cases (show ds = vecF n f from Option.some.inj hx)
    exact atI_vec h
  | tuple ds =>
    rw [d_ixT]
    cases (show ds = vecF n f from Option.some.inj hx)
    exact atI_vec h
  | _ => cases hx
theorem len_its {x : D} {n : Nat} {f : Nat → D} (hx : Its x n f) : dLen x = some (.int (n : Nat)) := by
  unfold dLen
  rw [hx]
  simp
theorem lst_its {n : Nat} {f : Nat → D} (h : n ≤ 1000000) : dLst (vecF n f) = some (vecF n f) := d_lst (by simpa using h)
section
variable {n m k l : Nat} {x y : D} {u v : Nat → Rat} {c : Rat}
theorem F_added_eq (hx : Its x n fun i => frD (u i)) (hy : Its y n fun i => frD (v i)) (hn : n ≤ 1000000) (hu : ∀ i, i < n → Sz m (u i)) (hv : ∀ i, i < n → Sz k (v i)) (hc : Sz l c) (h : m + k + l < 134000000) :
    F_added [x, y, frD c] = some (vL n fun i => u i + c * v i) := by
  refine run_of (w := ([], 0, 0, 0)) rfl ?_
  unfold g_added
  simp [zp2_its hx hy, lst_its hn]
  rw [lcGo_vec (φ := fun i => frD (u i + c * v i))]
  · rfl
  · intro i hi
    refine ⟨⟨([], 0, 0, 0), [.s x, .s y, .s (frD c), .s (frD (u i)), .s (frD (v i))]⟩, ?_, rfl, ?_⟩
    · simp [Ev.wipe, wipeS]
    · have h1 := F_times_eq hc (hv i hi) (by omega)
      have h2 := F_plus_eq (hu i hi) (hc.mul (hv i hi)) (by omega)
      simp [h1, h2]
theorem frD_int (i : Int) : frD (i : Rat) = .tuple [.int i, .int 1] := rfl
theorem frD_0 : frD 0 = .tuple [.int 0, .int 1] := rfl
theorem frD_1 : frD 1 = .tuple [.int 1, .int 1] := rfl
theorem sz0 : Sz 1 0 := ⟨by decide, by decide⟩
theorem sz_sum {f : Nat → Rat} {b : Nat} : ∀ {n : Nat}, (∀ i, i < n → Sz b (f i)) → Sz (1 + n * (b + 1)) (sumN n f)
  | 0, _ => sz0.mono (by omega)
  | n + 1, h => by
    have h1 := sz_sum (n := n) fun i hi => h i (by omega)
    have h2 := h1.add (h n (by omega))
    refine h2.mono ?_
    have : (n + 1) * (b + 1) = n * (b + 1) + (b + 1) := Nat.succ_mul _ _
    omega
theorem F_inner_eq {r : Nat → Int} (hx : Its x n fun i => .int (r i)) (hy : Its y n fun i => frD (v i)) (hr : ∀ i, i < n → (r i).natAbs < 2 ^ m) (h1 : 1 ≤ m) (hv : ∀ i, i < n → Sz k (v i)) (h : 1 + n * (m + k + 1) + m + k < 134000000) :
    F_inner [x, y] = some (frD (sumN n fun i => (r i : Rat) * v i)) := by
  refine run_of (w := ([], 0, 0, 0)) rfl ?_
  unfold g_inner
  simp [zp2_its hx hy]
  refine thn_for (fun i ρ => ∃ s3 s4, ρ = ⟨([], 0, 0, 0), [.s x, .s y, .s (frD (sumN i fun i => (r i : Rat) * v i)), s3, s4]⟩) ⟨_, _, rfl⟩ (fun i ρ hi hJ => ?_) (fun ρ hJ => ?_)
  ·
      obtain ⟨s3, s4, rfl⟩ := hJ
      have z1 := Sz.int (hr i hi) h1
      have e1 := F_times_eq z1 (hv i hi) (by omega)
      have z2 := sz_sum (n := i) (f := fun i => (r i : Rat) * v i) (b := m + k) fun j hj => (Sz.int (hr j (by omega)) h1).mul (hv j (by omega))
      have hb : i * (m + k + 1) ≤ n * (m + k + 1) := Nat.mul_le_mul_right _ (by omega)
      have e2 := F_plus_eq z2 (z1.mul (hv i hi)) (by omega)
      refine ⟨⟨([], 0, 0, 0), [.s x, .s y, .s (frD (sumN (i + 1) fun i => (r i : Rat) * v i)), .s (.int (r i)), .s (frD (v i))]⟩, ?_, ⟨_, _, rfl⟩⟩
      rw [frD_int] at e1
      simp [e1, e2]
      rfl
  · obtain ⟨s3, s4, rfl⟩ := hJ
    simp
theorem F_law_inner_eq {r : Nat → Int} (hx : Its x n fun i => .int (r i)) (hy : Its y n fun i => frD (v i)) (hn : n ≤ 1000000) (hr : ∀ i, i < n → (r i).natAbs < 2 ^ m) (h1 : 1 ≤ m) (hv : ∀ i, i < n → Sz k (v i)) (h : 1 + n * (m + k + 1) + m + k < 134000000) :
    F_law_inner [x, y] = some (frD (sumN n fun i => (r i : Rat) * v i)) := by
  refine run_of (w := ([], 0, 0, 0)) rfl ?_
  unfold g_law_inner
  simp [len_its hx, d_range hn]
  refine thn_for (fun i ρ => ∃ s3, ρ = ⟨([], 0, 0, 0), [.s x, .s y, .s (frD (sumN i fun i => (r i : Rat) * v i)), s3]⟩) ⟨_, rfl⟩ (fun i ρ hi hJ => ?_) (fun ρ hJ => ?_)
  ·
      obtain ⟨s3, rfl⟩ := hJ
      have z1 := Sz.int (hr i hi) h1
      have e1 := F_law_times_eq z1 (hv i hi) (by omega)
      have z2 := sz_sum (n := i) (f := fun i => (r i : Rat) * v i) (b := m + k) fun j hj => (Sz.int (hr j (by omega)) h1).mul (hv j (by omega))
      have hb : i * (m + k + 1) ≤ n * (m + k + 1) := Nat.mul_le_mul_right _ (by omega)
      have e2 := F_law_plus_eq z2 (z1.mul (hv i hi)) (by omega)
      refine ⟨⟨([], 0, 0, 0), [.s x, .s y, .s (frD (sumN (i + 1) fun i => (r i : Rat) * v i)), .s (.int (i : Nat))]⟩, ?_, ⟨_, rfl⟩⟩
      rw [frD_int] at e1
      simp [e1, e2, ix_its hx hi, ix_its hy hi]
      rfl
  · obtain ⟨s3, rfl⟩ := hJ
    simp
end
end PX

namespace PX
open PySem L2 DL PG
/-! ### shapes that == can compare -/
def Sh (k : Nat) (d : D) : Prop := d.canLay0 = true ∧ d.depth ≤ k
theorem Sh.mono {k l : Nat} {d : D} (h : Sh k d) (hl : k ≤ l) : Sh l d := ⟨h.1, Nat.le_trans h.2 hl⟩
theorem Sh.shaped {k : Nat} {d : D} (h : Sh k d) (hk : k ≤ 64) : SeqAt.shaped d = true := by
  unfold SeqAt.shaped
  rw [h.1, decide_eq_true (Nat.le_trans h.2 hk)]
  rfl
theorem sh_int (i : Int) : Sh 0 (.int i) := ⟨rfl, Nat.le_refl 0⟩
theorem sh_all : ∀ {k : Nat} {l : List D}, (∀ d ∈ l, Sh k d) → PyData.canLayAll0 l = true ∧ PyData.depthAll l ≤ k
  | _, [], _ => ⟨rfl, Nat.zero_le _⟩
  | k, x :: l, h => by
    obtain ⟨h1, h2⟩ := h x (List.mem_cons_self ..)
    obtain ⟨h3, h4⟩ := sh_all fun d hd => h d (List.mem_cons_of_mem x hd)
    refine ⟨?_, ?_⟩
    · show (PyData.canLay0 x && PyData.canLayAll0 l) = true
      rw [h1, h3]
      rfl
    · show max (PyData.depth x) (PyData.depthAll l) ≤ k
      omega
theorem sh_list {k : Nat} {l : List D} (h : ∀ d ∈ l, Sh k d) : Sh (k + 1) (.list l) := by
  obtain ⟨h1, h2⟩ := sh_all h
  exact ⟨h1, Nat.succ_le_succ h2⟩
theorem sh_tuple {k : Nat} {l : List D} (h : ∀ d ∈ l, Sh k d) : Sh (k + 1) (.tuple l) := by
  obtain ⟨h1, h2⟩ := sh_all h
  exact ⟨h1, Nat.succ_le_succ h2⟩
theorem mem_vec {α : Type} {n : Nat} {f : Nat → α} {x : α} (h : x ∈ vecF n f) : ∃ i, i < n ∧ x = f i := by
  unfold vecF at h
  obtain ⟨i, h1, h2⟩ := List.mem_map.mp h
  exact ⟨i, List.mem_range.mp h1, h2.symm⟩
theorem sh_frD (q : Rat) : Sh 1 (frD q) := sh_tuple fun d hd => by
  simp only [List.mem_cons, List.not_mem_nil, or_false] at hd
  rcases hd with rfl | rfl
  · exact sh_int _
  · exact sh_int _
theorem d_eqSh {k l : Nat} {a b : D} (ha : Sh k a) (hb : Sh l b) (hk : k ≤ 64) (hl : l ≤ 64) : dEq a b = some (.bool (PyData.eqv a b)) := by
  unfold dEq
  rw [ha.shaped hk, hb.shaped hl]
  rfl
theorem d_neSh {k l : Nat} {a b : D} (ha : Sh k a) (hb : Sh l b) (hk : k ≤ 64) (hl : l ≤ 64) : dNe a b = some (.bool (!PyData.eqv a b)) := by
  unfold dNe
  rw [ha.shaped hk, hb.shaped hl]
  rfl
theorem eqv_nil {l : List D} : PyData.eqv (.list l) (.list []) = l.isEmpty := by
  cases l <;> simp [PyData.eqv, PyData.eqvAll]
theorem d_eqNil {k : Nat} {l : List D} (h : ∀ d ∈ l, Sh k d) (hk : k < 64) : dEq (.list l) (.list []) = some (.bool l.isEmpty) := by
  rw [d_eqSh (sh_list h) (sh_list (k := 0) fun d hd => by cases hd) hk (by decide), eqv_nil]
theorem d_neNil {k : Nat} {l : List D} (h : ∀ d ∈ l, Sh k d) (hk : k < 64) : dNe (.list l) (.list []) = some (.bool (!l.isEmpty)) := by
  rw [d_neSh (sh_list h) (sh_list (k := 0) fun d hd => by cases hd) hk (by decide), eqv_nil]
/-! ### tables -/
def tabD (n w : Nat) (T : Tab) : List D := vecF n fun i => vL w (T i)
def updT (T : Tab) (k : Nat) (r : Nat → Rat) : Tab := fun i => if i = k then r else T i
theorem tab_set {n w k : Nat} {T : Tab} {r : Nat → Rat} : (tabD n w T).set k (vL w r) = tabD n w (updT T k r) := by
  unfold tabD
  rw [vecF_set]
  refine vecF_congr fun i _ => ?_
  unfold updT
  by_cases h : i = k
  · rw [if_pos h, if_pos h]
  · rw [if_neg h, if_neg h]
@[simp] theorem tab_len {n w : Nat} {T : Tab} : (tabD n w T).length = n := by simp [tabD]
theorem tab_st {n w k : Nat} {T : Tab} {r : Nat → Rat} (h : k < n) : stO (.o (tabD n w T)) (k : Int) (vL w r) = some (.o (tabD n w (updT T k r))) := by
  unfold stO
  simp only [tab_len, ixN_nat h, tab_set]
theorem tab_ix {n w k : Nat} {T : Tab} (h : k < n) : L2.atI (tabD n w T) (k : Int) = some (vL w (T k)) := atI_vec h
theorem vL_ix {w k : Nat} {v : Nat → Rat} (h : k < w) : dIx (vL w v) (.int (k : Int)) = some (frD (v k)) := ix_its its_vL h
theorem swap_eq {T : Tab} {a p : Nat} : updT (updT T a (T p)) p (T a) = swapR T a p := rfl
theorem norm_eq {T : Tab} {a : Nat} : updT T a (fun j => T a j / T a a) = normR T a := by
  funext i j
  unfold updT normR
  by_cases h : i = a
  · rw [if_pos h, if_pos h]
  · rw [if_neg h, if_neg h]
def elimK (T : Tab) (a k : Nat) : Tab := fun i => if i < k ∧ i ≠ a then (fun j => T i j - T i a * T a j) else T i
theorem elimK_0 {T : Tab} {a : Nat} : elimK T a 0 = T := by
  funext i
  unfold elimK
  rw [if_neg (by omega)]
theorem elimK_n {n w a : Nat} {T : Tab} (ha : a < n) : tabD n w (elimK T a n) = tabD n w (elimR T a) := by
  unfold tabD
  refine vecF_congr fun i hi => ?_
  unfold elimK elimR
  by_cases h : i = a
  · subst h
    rw [if_neg (by omega)]
    simp
  · rw [if_pos ⟨hi, h⟩]
    simp [h]
theorem elimK_at {T : Tab} {a k : Nat} : elimK T a k a = T a := by
  unfold elimK
  rw [if_neg (by omega)]
theorem elimK_k {T : Tab} {a k : Nat} : elimK T a k k = T k := by
  unfold elimK
  rw [if_neg (by omega)]
theorem elimK_set {T : Tab} {a k : Nat} (h : k ≠ a) : updT (elimK T a k) k (fun j => T k j - T k a * T a j) = elimK T a (k + 1) := by
  funext i
  unfold updT elimK
  by_cases hi : i = k
  · subst hi
    rw [if_pos rfl, if_pos ⟨by omega, h⟩]
  · rw [if_neg hi]
    by_cases h2 : i < k ∧ i ≠ a
    · rw [if_pos h2, if_pos ⟨by omega, h2.2⟩]
    · rw [if_neg h2, if_neg (by omega)]
theorem elimK_skip {T : Tab} {a k : Nat} (h : k = a ∨ T k a = 0) : elimK T a k = elimK T a (k + 1) := by
  funext i
  unfold elimK
  by_cases hi : i = k
  · subst hi
    rw [if_neg (by omega)]
    by_cases h2 : i = a
    · rw [if_neg (by omega)]
    · rw [if_pos ⟨by omega, h2⟩]
      have h3 : T i a = 0 := by
        rcases h with h | h
        · exact absurd h h2
        · exact h
      funext j
      rw [h3]
      grind
  · by_cases h2 : i < k ∧ i ≠ a
    · rw [if_pos h2, if_pos ⟨by omega, h2.2⟩]
    · rw [if_neg h2, if_neg (by omega)]
/-- sizes through the pivots -/
def bd (b : Nat) : Nat → Nat
  | 0 => b
  | k + 1 => 4 * bd b k + 1
theorem bd_le {b : Nat} : ∀ {n k : Nat}, k ≤ n → bd b k ≤ bd b n
  | 0, k, h => by
    obtain rfl : k = 0 := by omega
    exact Nat.le_refl _
  | n + 1, k, h => by
    by_cases e : k = n + 1
    · subst e; exact Nat.le_refl _
    · have := bd_le (b := b) (n := n) (k := k) (by omega)
      show bd b k ≤ 4 * bd b n + 1
      omega
def TSz (n w b : Nat) (T : Tab) : Prop := ∀ i j, i < n → j < w → Sz b (T i j)
theorem swap_sz {n w b a p : Nat} {T : Tab} (ha : a < n) (hp : p < n) (h : TSz n w b T) : TSz n w b (swapR T a p) := fun i j hi hj => by
  unfold swapR
  by_cases h1 : i = p
  · simp only [h1, if_true]; exact h a j ha hj
  · by_cases h2 : i = a
    · simp only [h1, h2, if_false, if_true]
      split
      · exact h a j ha hj
      · exact h p j hp hj
    · simp only [h1, h2, if_false]; exact h i j hi hj
theorem frD_neg (q : Rat) : frD (-q) = .tuple [.int (-q.num), .int (q.den : Nat)] := rfl
end PX

namespace PX
open PySem L2 DL PG
/-- the state at a pivot -/
structure GJ (n w b : Nat) (T0 : Tab) (a : Nat) (T : Tab) : Prop where
  u : UnitTo n a T
  k : ∀ z, Ker n w T z ↔ Ker n w T0 z
  s : TSz n w (bd b a) T
theorem norm_sz {n w b a : Nat} {T : Tab} (ha : a < n) (haw : a < w) (h0 : T a a ≠ 0) (h : TSz n w b T) : TSz n w (b + b) (normR T a) := fun i j hi hj => by
  unfold normR
  by_cases h1 : i = a
  · simp only [h1, if_true]
    exact (h a j ha hj).div (h a a ha haw) h0
  · simp only [h1, if_false]
    exact (h i j hi hj).mono (by omega)
theorem step_sz {n w b a p : Nat} {T : Tab} (ha : a < n) (hp : p < n) (haw : a < w) (h0 : T p a ≠ 0) (h : TSz n w b T) : TSz n w (4 * b + 1) (stepR T a p) := fun i j hi hj => by
  have hs := swap_sz ha hp h
  have h0' : swapR T a p a a ≠ 0 := by
    unfold swapR
    by_cases h : a = p
    · subst h; simpa using h0
    · simpa [h] using h0
  unfold stepR elimR
  by_cases h1 : i = a
  · simp only [h1, if_true]
    exact (norm_sz ha haw h0' hs a j ha hj).mono (by omega)
  · simp only [h1, if_false]
    have e1 : normR (swapR T a p) a i = swapR T a p i := by
      funext j
      unfold normR
      rw [if_neg h1]
    rw [e1]
    exact ((hs i j hi hj).sub ((hs i a hi haw).mul (norm_sz ha haw h0' hs a j ha hj))).mono (by omega)
theorem GJ.step {n w b a p : Nat} {T0 T : Tab} (G : GJ n w b T0 a T) (ha : a < n) (hw : n ≤ w) (hap : a ≤ p) (hp : p < n) (h0 : T p a ≠ 0) : GJ n w b T0 (a + 1) (stepR T a p) :=
  ⟨step_unit ha hap hp h0 G.u, fun z => (step_ker ha hp h0).trans (G.k z), step_sz ha hp (by omega) h0 G.s⟩
/-- where a pivot may stand -/
def spots (T : Tab) (n a : Nat) : List Nat := (List.range (n - a)).filter fun i => !decide ((T (a + i) a).num = 0)
theorem spots_nil {T : Tab} {n a : Nat} (h : spots T n a = []) : ∀ i, a ≤ i → i < n → T i a = 0 := fun i h1 h2 => by
  unfold spots at h
  have h3 := List.filter_eq_nil_iff.mp h (i - a) (List.mem_range.mpr (by omega))
  rw [show a + (i - a) = i by omega] at h3
  simp only [Bool.not_eq_true, Bool.not_eq_false', decide_eq_true_eq] at h3
  exact Rat.num_eq_zero.mp h3
theorem spots_cons {T : Tab} {n a k : Nat} {l : List Nat} (h : spots T n a = k :: l) : a + k < n ∧ T (a + k) a ≠ 0 := by
  have h1 : k ∈ spots T n a := by rw [h]; exact List.mem_cons_self ..
  unfold spots at h1
  obtain ⟨h2, h3⟩ := List.mem_filter.mp h1
  have h2' := List.mem_range.mp h2
  refine ⟨by omega, fun z => ?_⟩
  rw [z] at h3
  simp at h3
/-- what solved promises -/
def SolvedP (n m b : Nat) (R S : Tab) (d : D) : Prop :=
  (d = .none ∧ ∃ z : Nat → Rat, (∃ j, j < n ∧ z j ≠ 0) ∧ ∀ i, i < n → sumN n (fun j => R i j * z j) = 0) ∨
  ∃ X : Tab, d = .list (vecF m fun s => vL n (X s)) ∧ (∀ s, s < m → ∀ x : Nat → Rat, (∀ i, i < n → sumN n (fun j => R i j * x j) = S s i) ↔ ∀ i, i < n → x i = X s i) ∧ ∀ s i, s < m → i < n → Sz (bd b n) (X s i)
theorem frD_ix0 (q : Rat) : dIx (frD q) (.int 0) = some (.int q.num) := by simp [frD]
theorem frD_ix1 (q : Rat) : dIx (frD q) (.int 1) = some (.int (q.den : Nat)) := by simp [frD]
theorem F_solved_ok {n m b : Nat} {rows sides : D} {r sd : Nat → D} {R S : Tab} (hr : Its rows n r) (hri : ∀ i, i < n → Its (r i) n fun j => frD (R i j)) (hs : Its sides m sd) (hsi : ∀ s, s < m → Its (sd s) n fun i => frD (S s i))
    (hn : n ≤ 1000) (hm : m ≤ 1000) (hR : ∀ i j, i < n → j < n → Sz b (R i j)) (hS : ∀ s i, s < m → i < n → Sz b (S s i)) (hb : bd b n < 134000000) : ∃ d, F_solved [rows, sides] = some d ∧ SolvedP n m b R S d := by
  refine run_wp rfl ?_
  unfold g_solved
  simp [len_its hr, hr, vecF_enum, lst_its (show n ≤ 1000000 by omega)]
  rw [lcGo_vec (φ := fun i => vL (n + m) fun j => if j < n then R i j else S (j - n) i)]
  · simp [d_range (show n ≤ 1000000 by omega)]
    have hw : n ≤ n + m := Nat.le_add_right ..
    refine wp_thn (fun ρ => ∃ T s4 s5 s6 s7 s8, GJ n (n + m) b (fun i j => if j < n then R i j else S (j - n) i) n T ∧ ρ = ⟨([], 0, 0, 0), [.s rows, .s sides, .s (.int n), .o (tabD n (n + m) T), s4, s5, s6, s7, s8, .no, .no, .no, .no]⟩) ?_ ?_
    · refine wp_for (fun a ρ => ∃ T s4 s5 s6 s7 s8, GJ n (n + m) b (fun i j => if j < n then R i j else S (j - n) i) a T ∧ ρ = ⟨([], 0, 0, 0), [.s rows, .s sides, .s (.int n), .o (tabD n (n + m) T), s4, s5, s6, s7, s8, .no, .no, .no, .no]⟩) ?_ ?_ ?_
      · refine ⟨_, _, _, _, _, _, ⟨fun i j _ h => absurd h (Nat.not_lt_zero _), fun z => Iff.rfl, fun i j hi hj => ?_⟩, rfl⟩
        by_cases hjn : j < n
        · rw [if_pos hjn]; exact hR i j hi hjn
        · rw [if_neg hjn]; exact hS (j - n) i (by omega) hi
      · rintro a ρ ha ⟨T, s4, s5, s6, s7, s8, G, rfl⟩
        have hba : bd b (a + 1) ≤ bd b n := bd_le (by omega)
        have hba' : bd b (a + 1) = 4 * bd b a + 1 := rfl
        simp [d_range2 (show n ≤ 1000000 by omega) (show a ≤ 1000000 by omega), lst_its (show n - a ≤ 1000000 by omega)]
        rw [lcGo_filter (φ := fun i => .int ((a + i : Nat) : Int)) (t := fun i => !decide ((T (a + i) a).num = 0))]
        · rw [show (List.range (n - a)).filter (fun i => !decide ((T (a + i) a).num = 0)) = spots T n a from rfl]
          simp [d_eqNil (k := 0) (l := (spots T n a).map fun (i : Nat) => (PyData.int ((a : Int) + (i : Int)) : D)) (fun d hd => by obtain ⟨i, _, rfl⟩ := List.mem_map.mp hd; exact sh_int _) (by decide)]
          cases hsp : spots T n a with
          | nil =>
            simp
            refine wp_some ?_
            obtain ⟨z, z1, z2, z3⟩ := no_pivot ha hw G.u (spots_nil hsp)
            exact .inl ⟨rfl, z, ⟨a, ha, z1⟩, ker_null z2 ((G.k z).mp z3)⟩
          | cons k l =>
            obtain ⟨hp, h0⟩ := spots_cons hsp
            have haw : a < n + m := by omega
            have hwl : n + m ≤ 1000000 := by omega
            obtain ⟨p, ep⟩ : ∃ p : Nat, p = a + k := ⟨_, rfl⟩
            have ep' : (a : Int) + (k : Int) = (p : Int) := by rw [ep]; rfl
            rw [← ep] at hp h0
            have hap : a ≤ p := by omega
            simp only [List.map_cons, ep', Int.natCast_add]
            generalize List.map (fun (i : Nat) => (PyData.int ((a : Int) + (i : Int)) : D)) l = tl
            simp [tab_ix hp, tab_ix ha, tab_st ha, tab_st hp, swap_eq]
            have G' := G.step ha hw hap hp h0
            have hs1 := swap_sz ha hp G.s
            have h0' : swapR T a p a a ≠ 0 := by
              unfold swapR
              by_cases h : a = p
              · subst h; simpa using h0
              · simpa [h] using h0
            have e3 : stepR T a p = elimR (normR (swapR T a p) a) a := rfl
            rw [e3] at G'
            generalize swapR T a p = T1 at *
            simp [tab_ix ha, vL_ix haw, its_vL, lst_its hwl]
            rw [lcGo_vec (φ := fun j => frD (T1 a j / T1 a a))]
            · rw [show (vecF (n + m) fun j => frD (T1 a j / T1 a a)) = vecF (n + m) fun j => frD ((fun j => T1 a j / T1 a a) j) from rfl]
              simp only [bnd_some]
              rw [show (PyData.list (vecF (n + m) fun j => frD ((fun j => T1 a j / T1 a a) j)) : D) = vL (n + m) (fun j => T1 a j / T1 a a) from rfl]
              simp [tab_st ha, norm_eq, d_range (show n ≤ 1000000 by omega)]
              have hr2 : ∀ i, i ≠ a → normR T1 a i = T1 i := fun i hi => by
                funext j
                unfold normR
                rw [if_neg hi]
              have ha2 : ∀ j, j < n + m → Sz (bd b a + bd b a) (normR T1 a a j) := fun j hj => norm_sz ha haw h0' hs1 a j ha hj
              have hend : ∀ s7 s8, ∃ T, GJ n (n + m) b (fun i j => if j < n then R i j else S (j - n) i) (a + 1) T ∧ ∃ x x_1 x_2 x_3 x_4, (⟨([], 0, 0, 0), [.s rows, .s sides, .s (.int n), .o (tabD n (n + m) (elimK (normR T1 a) a n)), .s (.int a), .s (.list (.int p :: tl)), .s (frD (T1 a a)), s7, s8, .no, .no, .no, .no]⟩ : Ev) = ⟨([], 0, 0, 0), [.s rows, .s sides, .s (.int n), .o (tabD n (n + m) T), x, x_1, x_2, x_3, x_4, .no, .no, .no, .no]⟩ := fun s7 s8 => by
                rw [elimK_n ha]
                exact ⟨_, G', _, _, _, _, _, rfl⟩
              generalize normR T1 a = T2 at *
              refine wp_for (fun k ρ => ∃ s7 s8, ρ = ⟨([], 0, 0, 0), [.s rows, .s sides, .s (.int n), .o (tabD n (n + m) (elimK T2 a k)), .s (.int a), .s (.list (.int p :: tl)), .s (frD (T1 a a)), s7, s8, .no, .no, .no, .no]⟩) ⟨s7, s8, by rw [elimK_0]⟩ ?_ ?_
              · rintro k ρ hk ⟨t7, t8, rfl⟩
                simp [tab_ix hk, elimK_k, vL_ix haw, frD_ix0]
                by_cases hka : k = a
                · simp [hka]
                  rw [show elimK T2 a a = elimK T2 a (a + 1) from elimK_skip (.inl rfl)]
                  exact wp_some ⟨_, _, rfl⟩
                · have hka' : ¬ ((k : Int) = (a : Int)) := by omega
                  have hz : ((T2 k a).num = 0) ↔ T2 k a = 0 := Rat.num_eq_zero
                  by_cases h2 : T2 k a = 0
                  · simp [hka', h2]
                    rw [show elimK T2 a k = elimK T2 a (k + 1) from elimK_skip (.inr h2)]
                    exact wp_some ⟨_, _, rfl⟩
                  · have h2' : ¬ (T2 k a).num = 0 := fun z => h2 (hz.mp z)
                    have hu : ∀ j, j < n + m → Sz (bd b a) (T2 k j) := fun j hj => by rw [hr2 k hka]; exact hs1 k j hk hj
                    have e := F_added_eq (its_vL (n := n + m) (v := T2 k)) (its_vL (v := T2 a)) hwl hu ha2 (hu a haw).neg (by omega)
                    have e2 : (vL (n + m) fun j => T2 k j + -T2 k a * T2 a j) = vL (n + m) fun j => T2 k j - T2 k a * T2 a j := by
                      congr 1
                      funext j
                      grind
                    rw [e2, frD_neg] at e
                    simp [hka', h2, h2', tab_ix hk, tab_ix ha, elimK_k, elimK_at, vL_ix haw, frD_ix0, frD_ix1, e, tab_st hk, elimK_set hka]
                    exact wp_some ⟨_, _, rfl⟩
              · rintro ρ ⟨t7, t8, rfl⟩
                exact hend t7 t8
            · intro j hj
              refine ⟨⟨([], 0, 0, 0), [.s rows, .s sides, .s (.int n), .o (tabD n (n + m) T1), .s (.int a), .s (.list (.int p :: tl)), .s (frD (T1 a a)), s7, s8, .no, .no, .s (frD (T1 a j)), .no]⟩, ?_, rfl, ?_⟩
              · simp [Ev.wipe, wipeS]
              · simp [F_over_eq (hs1 a j ha hj) (hs1 a a ha haw) (by omega) h0']
        · intro i hi
          refine ⟨⟨([], 0, 0, 0), [.s rows, .s sides, .s (.int n), .o (tabD n (n + m) T), .s (.int a), s5, s6, .s (.int ((a + i : Nat) : Int)), s8, .no, .no, .no, .no]⟩, ?_, ?_, ?_⟩
          · simp [Ev.wipe, wipeS]
          · have h1 : a + i < n := by omega
            have h2 : a < n + m := by omega
            have e := tab_ix (T := T) (w := n + m) h1
            rw [Int.natCast_add] at e
            simp [e, vL_ix h2, frD_ix0]
          · simp
      · rintro ρ h
        exact h
    · rintro ρ ⟨T, s4, s5, s6, s7, s8, G, rfl⟩
      simp [len_its hs, d_range (show m ≤ 1000000 by omega), lst_its (show m ≤ 1000000 by omega)]
      rw [lcGo_vec (φ := fun s => vL n fun i => T i (n + s))]
      · simp
        refine wp_some (.inr ⟨fun s i => T i (n + s), rfl, fun s hs' x => ?_, fun s i hs' hi => G.s i (n + s) hi (by omega)⟩)
        rw [← ker_sol (m := m) hs', ← G.k]
        exact unit_sol hs' G.u x
      · intro s hs'
        refine ⟨⟨([], 0, 0, 0), [.s rows, .s sides, .s (.int n), .o (tabD n (n + m) T), s4, s5, s6, .s (.int s), s8, .no, .no, .no, .no]⟩, ?_, rfl, ?_⟩
        · simp [Ev.wipe, wipeS]
        · simp
          rw [show tabD n (n + m) T = vecF n fun i => vL (n + m) (T i) from rfl, lst_its (show n ≤ 1000000 by omega)]
          simp
          rw [lcGo_vec (φ := fun i => frD (T i (n + s)))]
          · rfl
          · intro i hi
            have e : dIx (vL (n + m) (T i)) (.int ((n + s : Nat) : Int)) = some (frD (T i (n + s))) := vL_ix (by omega)
            rw [Int.natCast_add] at e
            refine ⟨⟨([], 0, 0, 0), [.s rows, .s sides, .s (.int n), .o (tabD n (n + m) T), s4, s5, s6, .s (.int s), s8, .no, .no, .no, .s (vL (n + m) (T i))]⟩, ?_, rfl, ?_⟩
            · simp [Ev.wipe, wipeS, tabD]
            · simp [e]
  · intro i hi
    refine ⟨⟨([], 0, 0, 0), [.s rows, .s sides, .s (.int n), .no, .s (.int i), .no, .no, .no, .no, .s (r i), .no, .no, .no]⟩, ?_, rfl, ?_⟩
    · simp [Ev.wipe, wipeS]
    · have h1 : dItems (r i) = _ := hri i hi
      simp [h1, hs, lst_its (show m ≤ 1000000 by omega)]
      rw [lcGo_vec (φ := fun s => frD (S s i))]
      · simp [vecF_append, lst_its (show n + m ≤ 1000000 by omega)]
        unfold vL
        congr 1
        refine vecF_congr fun j _ => ?_
        by_cases hj : j < n
        · simp only [if_pos hj]
        · simp only [if_neg hj]
      · intro s hs'
        refine ⟨⟨([], 0, 0, 0), [.s rows, .s sides, .s (.int n), .no, .s (.int i), .no, .no, .no, .no, .s (r i), .s (sd s), .no, .no]⟩, ?_, rfl, ?_⟩
        · simp [Ev.wipe, wipeS]
        · simp [ix_its (hsi s hs') hi]
end PX

namespace PX
open PySem L2 DL PG
/-! ### isinstance -/
section
variable {i : Int} {b : Bool} {xs : List D}
theorem kit_ii : kitB "int" "int" = some true := by decide +kernel
theorem kit_ib : kitB "int" "bool" = some false := by decide +kernel
theorem kit_bi : kitB "bool" "int" = some true := by decide +kernel
theorem kit_bb : kitB "bool" "bool" = some true := by decide +kernel
theorem kit_tt : kitB "tuple" "tuple" = some true := by decide +kernel
theorem kit_ll : kitB "list" "list" = some true := by decide +kernel
theorem kit_tl : kitB "tuple" "list" = some false := by decide +kernel
theorem kit_lt : kitB "list" "tuple" = some false := by decide +kernel
theorem kit_is : kitB "int" "str" = some false := by decide +kernel
theorem kit_bs : kitB "bool" "str" = some false := by decide +kernel
theorem kit_tb : kitB "tuple" "bool" = some false := by decide +kernel
@[simp] theorem isi_ii : dIsi "int" (.int i) = some (.bool true) := by simp [dIsi, tyN, kit_ii]
@[simp] theorem isi_ib : dIsi "bool" (.int i) = some (.bool false) := by simp [dIsi, tyN, kit_ib]
@[simp] theorem isi_bi : dIsi "int" (.bool b) = some (.bool true) := by simp [dIsi, tyN, kit_bi]
@[simp] theorem isi_bb : dIsi "bool" (.bool b) = some (.bool true) := by simp [dIsi, tyN, kit_bb]
@[simp] theorem isi_tt : dIsi "tuple" (.tuple xs) = some (.bool true) := by simp [dIsi, tyN, kit_tt]
@[simp] theorem isi_tl : dIsi "list" (.tuple xs) = some (.bool false) := by simp [dIsi, tyN, kit_tl]
@[simp] theorem isi_ll : dIsi "list" (.list xs) = some (.bool true) := by simp [dIsi, tyN, kit_ll]
@[simp] theorem isi_is : dIsi "str" (.int i) = some (.bool false) := by simp [dIsi, tyN, kit_is]
@[simp] theorem isi_bs : dIsi "str" (.bool b) = some (.bool false) := by simp [dIsi, tyN, kit_bs]
@[simp] theorem tl_t : dIsiTL (.tuple xs) = some (.bool true) := (rfl)
@[simp] theorem tl_l : dIsiTL (.list xs) = some (.bool true) := (rfl)
@[simp] theorem tl_i : dIsiTL (.int i) = some (.bool false) := (rfl)
@[simp] theorem tl_b : dIsiTL (.bool b) = some (.bool false) := (rfl)
end
theorem F_is_int_eq (i : Int) : F_is_int [.int i] = some (.bool true) := by
  refine run_of (w := ([], 0, 0, 0)) rfl ?_
  unfold g_is_int
  simp
theorem F_is_fraction_eq (q : Rat) : F_is_fraction [frD q] = some (.bool true) := by
  have h1 : Int.gcd q.num (q.den : Int) = 1 := q.reduced
  have h2 : (0 : Int) < (q.den : Int) := by have := q.den_pos; omega
  have hc := F_common_eq q.num (q.den : Int)
  rw [h1] at hc
  refine run_of (w := ([], 0, 0, 0)) rfl ?_
  unfold g_is_fraction
  simp [frD, F_is_int_eq, hc, q.den_pos]
theorem F_is_small_eq {i : Int} (h : i.natAbs ≤ 1000) : F_is_small [.int i] = some (.bool true) := by
  have h1 : -1000 ≤ i := by omega
  have h2 : i ≤ 1000 := by omega
  refine run_of (w := ([], 0, 0, 0)) rfl ?_
  unfold g_is_small
  simp [F_is_int_eq, h1, h2]
theorem toBls_vec {n : Nat} {t : Nat → Bool} : toBls (vecF n fun i => .bool (t i)) = some (vecF n t) := by
  unfold vecF
  generalize List.range n = l
  induction l with
  | nil => rfl
  | cons i l ih =>
    rw [List.map_cons, List.map_cons]
    unfold toBls
    rw [ih]
theorem all_vec {n : Nat} {t : Nat → Bool} (h : ∀ i, i < n → t i = true) : (vecF n t).all id = true := by
  rw [List.all_eq_true]
  intro x hx
  obtain ⟨i, hi, rfl⟩ := mem_vec hx
  exact h i hi
theorem d_all {n : Nat} {t : Nat → Bool} : dAll (.list (vecF n fun i => .bool (t i))) = some (.bool ((vecF n t).all id)) := by
  unfold dAll
  simp only [toBls_vec]
theorem d_any {n : Nat} {t : Nat → Bool} : dAny (.list (vecF n fun i => .bool (t i))) = some (.bool ((vecF n t).any id)) := by
  unfold dAny
  simp only [toBls_vec]
theorem d_allT {n : Nat} : dAll (.list (vecF n fun _ => .bool true)) = some (.bool true) := by
  rw [d_all (t := fun _ => true), all_vec fun _ _ => rfl]
theorem F_is_row_eq {n : Nat} {r : Nat → Int} (hn : n ≤ 1000) (h : ∀ i, i < n → (r i).natAbs ≤ 1000) : F_is_row [iT n r, .int (n : Nat)] = some (.bool true) := by
  refine run_of (w := ([], 0, 0, 0)) rfl ?_
  unfold g_is_row iT
  simp [lst_its (show n ≤ 1000000 by omega)]
  rw [lcGo_vec (φ := fun _ => .bool true)]
  · simp [d_allT]
  · intro i hi
    refine ⟨⟨([], 0, 0, 0), [.s (iT n r), .s (.int n), .s (.int (r i))]⟩, ?_, rfl, ?_⟩
    · simp [Ev.wipe, wipeS, iT]
    · simp [F_is_small_eq (h i hi)]
/-! ### tasks -/
structure Tk where
  n : Nat
  h : Nat
  M : Nat → Nat → Int
  c : Nat → Int
  d : Nat → Int
  A : Nat → Nat → Int
  b : Nat → Int
  e : Nat → Int
namespace Tk
def rowD (t : Tk) (i : Nat) : D := .tuple [iT t.n (t.A i), .int (t.b i), .int (t.e i)]
def sqD (t : Tk) : D := .tuple (vecF t.n fun i => iT t.n (t.M i))
def rowsD (t : Tk) : D := .tuple (vecF t.h t.rowD)
def dat (t : Tk) : D := .tuple [t.sqD, iT t.n t.c, iT t.n t.d, t.rowsD]
structure Ok (t : Tk) : Prop where
  n1 : 1 ≤ t.n
  n4 : t.n ≤ 4
  h8 : t.h ≤ 8
  M : ∀ i j, i < t.n → j < t.n → (t.M i j).natAbs ≤ 1000
  c : ∀ i, i < t.n → (t.c i).natAbs ≤ 1000
  d : ∀ i, i < t.n → (t.d i).natAbs ≤ 1000
  A : ∀ i j, i < t.h → j < t.n → (t.A i j).natAbs ≤ 1000
  b : ∀ i, i < t.h → (t.b i).natAbs ≤ 1000
  e : ∀ i, i < t.h → (t.e i).natAbs ≤ 1000
  sym : ∀ i j, i < t.n → j < t.n → t.M i j = t.M j i
  pd : ∀ z : Nat → Rat, (∃ i, i < t.n ∧ z i ≠ 0) → 0 < sumN t.n fun i => z i * sumN t.n fun j => (t.M i j : Rat) * z j
/-- what is worked out of a task -/
def cost (t : Tk) (s : Rat) (j : Nat) : Rat := (t.c j : Rat) + (t.d j : Rat) * s
def right (t : Tk) (s : Rat) (i : Nat) : Rat := (t.b i : Rat) + (t.e i : Rat) * s
def Mx (t : Tk) (x : Nat → Rat) (i : Nat) : Rat := sumN t.n fun j => (t.M i j : Rat) * x j
def slope (t : Tk) (s : Rat) (x : Nat → Rat) (j : Nat) : Rat := t.Mx x j + t.cost s j
def Ax (t : Tk) (x : Nat → Rat) (i : Nat) : Rat := sumN t.n fun j => (t.A i j : Rat) * x j
def gap (t : Tk) (s : Rat) (x : Nat → Rat) (i : Nat) : Rat := t.Ax x i - t.right s i
def worth (t : Tk) (s : Rat) (x : Nat → Rat) : Rat := sumN t.n fun j => x j * (t.Mx x j / 2 + t.cost s j)
def Aw (t : Tk) (w : Nat → Rat) (j : Nat) : Rat := sumN t.h fun i => (t.A i j : Rat) * w i
def lim (t : Tk) (s : Rat) (w : Nat → Rat) : Rat := sumN t.h fun i => t.right s i * w i
end Tk
theorem pow10 {i : Int} (h : i.natAbs ≤ 1000) : i.natAbs < 2 ^ 10 := by
  have : (2 : Nat) ^ 10 = 1024 := rfl
  omega
theorem sz10 {i : Int} (h : i.natAbs ≤ 1000) : Sz 10 (i : Rat) := Sz.int (pow10 h) (by decide)
/-- inner, of at most eight things -/
theorem F_inner8 {n k : Nat} {x y : D} {r : Nat → Int} {v : Nat → Rat} (hx : Its x n fun i => .int (r i)) (hy : Its y n fun i => frD (v i)) (hn : n ≤ 8) (hr : ∀ i, i < n → (r i).natAbs ≤ 1000) (hv : ∀ i, i < n → Sz k (v i)) (h : 9 * k < 133000000) :
    F_inner [x, y] = some (frD (sumN n fun i => (r i : Rat) * v i)) ∧ Sz (8 * k + 100) (sumN n fun i => (r i : Rat) * v i) := by
  have hb : n * (10 + k + 1) ≤ 8 * (10 + k + 1) := Nat.mul_le_mul_right _ hn
  exact ⟨F_inner_eq hx hy (fun i hi => pow10 (hr i hi)) (by decide) hv (by omega), (sz_sum fun i hi => (sz10 (hr i hi)).mul (hv i hi)).mono (by omega)⟩
theorem F_law_inner8 {n k : Nat} {x y : D} {r : Nat → Int} {v : Nat → Rat} (hx : Its x n fun i => .int (r i)) (hy : Its y n fun i => frD (v i)) (hn : n ≤ 8) (hr : ∀ i, i < n → (r i).natAbs ≤ 1000) (hv : ∀ i, i < n → Sz k (v i)) (h : 9 * k < 133000000) :
    F_law_inner [x, y] = some (frD (sumN n fun i => (r i : Rat) * v i)) := by
  have hb : n * (10 + k + 1) ≤ 8 * (10 + k + 1) := Nat.mul_le_mul_right _ hn
  exact F_law_inner_eq hx hy (by omega) (fun i hi => pow10 (hr i hi)) (by decide) hv (by omega)
section
variable {t : Tk} {s : Rat} {p q : Nat} {v : Nat → Rat} {x : D}
theorem Tk.cost_sz (ok : t.Ok) (hs : Sz p s) {j : Nat} (hj : j < t.n) : Sz (p + 21) (t.cost s j) := ((sz10 (ok.c j hj)).add ((sz10 (ok.d j hj)).mul hs)).mono (by omega)
theorem Tk.right_sz (ok : t.Ok) (hs : Sz p s) {j : Nat} (hj : j < t.h) : Sz (p + 21) (t.right s j) := ((sz10 (ok.b j hj)).add ((sz10 (ok.e j hj)).mul hs)).mono (by omega)
theorem F_costs_at_eq (ok : t.Ok) (hs : Sz p s) (hp : p ≤ 1000000) : F_costs_at [t.dat, frD s] = some (vL t.n (t.cost s)) := by
  have hn := ok.n4
  refine run_of (w := ([], 0, 0, 0)) rfl ?_
  unfold g_costs_at Tk.dat
  simp [zp2_its (its_iT (v := t.c)) (its_iT (v := t.d)), lst_its (show t.n ≤ 1000000 by omega)]
  rw [lcGo_vec (φ := fun i => frD (t.cost s i))]
  · rfl
  · intro i hi
    refine ⟨⟨([], 0, 0, 0), [.s t.dat, .s (frD s), .s (.int (t.c i)), .s (.int (t.d i))]⟩, ?_, rfl, ?_⟩
    · simp [Ev.wipe, wipeS, Tk.dat]
    · have e1 := F_times_eq (sz10 (ok.d i hi)) hs (by omega)
      have e2 := F_plus_eq (sz10 (ok.c i hi)) ((sz10 (ok.d i hi)).mul hs) (by omega)
      rw [frD_int] at e1 e2
      simp [e1, e2, Tk.cost]
theorem F_rights_at_eq (ok : t.Ok) (hs : Sz p s) (hp : p ≤ 1000000) : F_rights_at [t.dat, frD s] = some (vL t.h (t.right s)) := by
  have hn := ok.h8
  refine run_of (w := ([], 0, 0, 0)) rfl ?_
  unfold g_rights_at Tk.dat Tk.rowsD
  simp [lst_its (show t.h ≤ 1000000 by omega)]
  rw [lcGo_vec (φ := fun i => frD (t.right s i))]
  · rfl
  · intro i hi
    refine ⟨⟨([], 0, 0, 0), [.s t.dat, .s (frD s), .s (t.rowD i)]⟩, ?_, rfl, ?_⟩
    · simp [Ev.wipe, wipeS, Tk.dat, Tk.rowsD]
    · have e1 := F_times_eq (sz10 (ok.e i hi)) hs (by omega)
      have e2 := F_plus_eq (sz10 (ok.b i hi)) ((sz10 (ok.e i hi)).mul hs) (by omega)
      rw [frD_int] at e1 e2
      simp [e1, e2, Tk.right, Tk.rowD]
theorem Tk.Mx_sz (ok : t.Ok) (hv : ∀ i, i < t.n → Sz q (v i)) {i : Nat} (hi : i < t.n) : Sz (8 * q + 100) (t.Mx v i) := by
  have hb : t.n * (10 + q + 1) ≤ 8 * (10 + q + 1) := Nat.mul_le_mul_right _ (by have := ok.n4; omega)
  exact (sz_sum fun j hj => (sz10 (ok.M i j hi hj)).mul (hv j hj)).mono (by omega)
theorem Tk.Ax_sz (ok : t.Ok) (hv : ∀ i, i < t.n → Sz q (v i)) {i : Nat} (hi : i < t.h) : Sz (8 * q + 100) (t.Ax v i) := by
  have hb : t.n * (10 + q + 1) ≤ 8 * (10 + q + 1) := Nat.mul_le_mul_right _ (by have := ok.n4; omega)
  exact (sz_sum fun j hj => (sz10 (ok.A i j hi hj)).mul (hv j hj)).mono (by omega)
theorem F_slope_of_eq (ok : t.Ok) (hs : Sz p s) (hp : p ≤ 1000000) (hx : Its x t.n fun i => frD (v i)) (hv : ∀ i, i < t.n → Sz q (v i)) (hq : q ≤ 1000000) : F_slope_of [t.dat, frD s, x] = some (vL t.n (t.slope s v)) := by
  have hn := ok.n4
  have hc := F_costs_at_eq ok hs hp
  have ha := F_added_eq (c := 1) (its_vL (n := t.n) (v := t.Mx v)) (its_vL (v := t.cost s)) (by omega) (fun i hi => Tk.Mx_sz ok hv hi) (fun i hi => Tk.cost_sz ok hs hi) (l := 1) ⟨by decide, by decide⟩ (by omega)
  rw [frD_1] at ha
  have e : (vL t.n fun i => t.Mx v i + 1 * t.cost s i) = vL t.n (t.slope s v) := by
    congr 1
    funext i
    rw [Rat.one_mul]
    rfl
  rw [e] at ha
  refine run_of (w := ([], 0, 0, 0)) rfl ?_
  unfold g_slope_of
  simp [hc]
  simp [Tk.dat, Tk.sqD, lst_its (show t.n ≤ 1000000 by omega)]
  rw [lcGo_vec (φ := fun i => frD (t.Mx v i))]
  · simp
    rw [show (PyData.list (vecF t.n fun i => frD (t.Mx v i)) : D) = vL t.n (t.Mx v) from rfl]
    have hc' := hc
    unfold Tk.dat Tk.sqD at hc'
    simp [hc', ha]
  · intro i hi
    refine ⟨⟨([], 0, 0, 0), [.s t.dat, .s (frD s), .s x, .s (iT t.n (t.M i))]⟩, ?_, rfl, ?_⟩
    · simp [Ev.wipe, wipeS, Tk.dat, Tk.sqD]
    · obtain ⟨h1, _⟩ := F_inner8 (its_iT (v := t.M i)) hx (by omega) (fun j hj => ok.M i j hi hj) hv (by omega)
      simp [h1]
      rfl
end
end PX

namespace PX
open PySem L2 DL PG
section
variable {t : Tk} {s : Rat} {p q : Nat} {v w : Nat → Rat} {x y : D}
@[simp] theorem dat0 : dIx t.dat (.int 0) = some t.sqD := by simp [Tk.dat]
@[simp] theorem dat1 : dIx t.dat (.int 1) = some (iT t.n t.c) := by simp [Tk.dat]
@[simp] theorem dat2 : dIx t.dat (.int 2) = some (iT t.n t.d) := by simp [Tk.dat]
@[simp] theorem dat3 : dIx t.dat (.int 3) = some t.rowsD := by simp [Tk.dat]
@[simp] theorem row0 {i : Nat} : dIx (t.rowD i) (.int 0) = some (iT t.n (t.A i)) := by simp [Tk.rowD]
@[simp] theorem row1 {i : Nat} : dIx (t.rowD i) (.int 1) = some (.int (t.b i)) := by simp [Tk.rowD]
@[simp] theorem row2 {i : Nat} : dIx (t.rowD i) (.int 2) = some (.int (t.e i)) := by simp [Tk.rowD]
theorem its_sq : Its t.sqD t.n fun i => iT t.n (t.M i) := rfl
theorem its_rows : Its t.rowsD t.h t.rowD := rfl
@[simp] theorem it_sq : dItems t.sqD = some (vecF t.n fun i => iT t.n (t.M i)) := (rfl)
@[simp] theorem it_rows : dItems t.rowsD = some (vecF t.h t.rowD) := (rfl)
@[simp] theorem it_iT {n : Nat} {r : Nat → Int} : dItems (iT n r) = some (vecF n fun i => .int (r i)) := (rfl)
@[simp] theorem it_iL {n : Nat} {r : Nat → Int} : dItems (iL n r) = some (vecF n fun i => .int (r i)) := (rfl)
@[simp] theorem it_vL {n : Nat} {r : Nat → Rat} : dItems (vL n r) = some (vecF n fun i => frD (r i)) := (rfl)
@[simp] theorem it_vT {n : Nat} {r : Nat → Rat} : dItems (vT n r) = some (vecF n fun i => frD (r i)) := (rfl)
@[simp] theorem len_sq : dLen t.sqD = some (.int (t.n : Nat)) := len_its its_sq
@[simp] theorem len_rows : dLen t.rowsD = some (.int (t.h : Nat)) := len_its its_rows
@[simp] theorem len_iT {n : Nat} {r : Nat → Int} : dLen (iT n r) = some (.int (n : Nat)) := len_its its_iT
@[simp] theorem len_vL {n : Nat} {r : Nat → Rat} : dLen (vL n r) = some (.int (n : Nat)) := len_its its_vL
@[simp] theorem len_vT {n : Nat} {r : Nat → Rat} : dLen (vT n r) = some (.int (n : Nat)) := len_its its_vT
@[simp] theorem fr_0 {a : Rat} : dIx (frD a) (.int 0) = some (.int a.num) := frD_ix0 a
@[simp] theorem fr_1 {a : Rat} : dIx (frD a) (.int 1) = some (.int (a.den : Nat)) := frD_ix1 a
@[simp] theorem numlt {a : Rat} : a.num < 0 ↔ a < 0 := by
  have := (Rat.num_nonneg (q := a))
  rw [← Rat.not_le, ← this]
  omega
@[simp] theorem numgt {a : Rat} : 0 < a.num ↔ 0 < a := by
  have h1 := (Rat.num_nonneg (q := a))
  have h2 := (Rat.num_eq_zero (q := a))
  constructor
  · intro h
    have h3 : 0 ≤ a := h1.mp (by omega)
    have h4 : a ≠ 0 := fun z => by have := h2.mpr z; omega
    grind
  · intro h
    have h3 : 0 ≤ a.num := h1.mpr (by grind)
    have h4 : a.num ≠ 0 := fun z => by have := h2.mp z; grind
    omega
def C2 : Rat := 2
theorem sz2 : Sz 2 2 := ⟨by decide, by decide⟩
theorem frD_2 : frD 2 = .tuple [.int 2, .int 1] := rfl
theorem two_ne : (2 : Rat) ≠ 0 := by decide
theorem F_worth_of_eq (ok : t.Ok) (hs : Sz p s) (hp : p ≤ 1000000) (hx : Its x t.n fun i => frD (v i)) (hxs : slL (.s x) = some x) (hv : ∀ i, i < t.n → Sz q (v i)) (hq : q ≤ 1000000) :
    F_worth_of [t.dat, frD s, x] = some (frD (t.worth s v)) := by
  have hn := ok.n4
  have hc := F_costs_at_eq ok hs hp
  refine run_of (w := ([], 0, 0, 0)) rfl ?_
  unfold g_worth_of
  simp [hc, zp3_its hx its_sq (its_vL (v := t.cost s))]
  refine thn_for (fun i ρ => ∃ s4 s5 s6, ρ = ⟨([], 0, 0, 0), [.s t.dat, .s (frD s), .s x, .s (frD (sumN i fun j => v j * (t.Mx v j / 2 + t.cost s j))), s4, s5, s6]⟩) ⟨_, _, _, rfl⟩ (fun i ρ hi hJ => ?_) (fun ρ hJ => ?_)
  · obtain ⟨s4, s5, s6, rfl⟩ := hJ
    obtain ⟨h1, _⟩ := F_inner8 (its_iT (v := t.M i)) hx (by omega) (fun j hj => ok.M i j hi hj) hv (by omega)
    have z1 : Sz (8 * q + 100) (t.Mx v i) := Tk.Mx_sz ok hv hi
    have z2 := z1.div sz2 two_ne
    have z3 : ∀ j, j < t.n → Sz (9 * q + p + 125) (v j * (t.Mx v j / 2 + t.cost s j)) := fun j hj => ((hv j hj).mul (((Tk.Mx_sz ok hv hj).div sz2 two_ne).add (Tk.cost_sz ok hs hj))).mono (by omega)
    have z4 := sz_sum (n := i) fun j hj => z3 j (by omega)
    have hb : i * (9 * q + p + 125 + 1) ≤ 4 * (9 * q + p + 125 + 1) := Nat.mul_le_mul_right _ (by omega)
    have e1 := F_over_eq z1 sz2 (by omega) two_ne
    have e2 := F_plus_eq z2 (Tk.cost_sz ok hs hi) (by omega)
    have e3 := F_times_eq (hv i hi) (z2.add (Tk.cost_sz ok hs hi)) (by omega)
    have e4 := F_plus_eq z4 (z3 i hi) (by omega)
    rw [frD_2] at e1
    rw [show (sumN t.n fun j => (t.M i j : Rat) * v j) = t.Mx v i from rfl] at h1
    refine ⟨_, ?_, ⟨.s (frD (v i)), .s (iT t.n (t.M i)), .s (frD (t.cost s i)), rfl⟩⟩
    simp [h1, e1, e2, e3, e4]
    rfl
  · obtain ⟨s4, s5, s6, rfl⟩ := hJ
    simp
    rfl
theorem Tk.gap_sz (ok : t.Ok) (hs : Sz p s) (hv : ∀ i, i < t.n → Sz q (v i)) {i : Nat} (hi : i < t.h) : Sz (8 * q + p + 122) (t.gap s v i) := ((Tk.Ax_sz ok hv hi).sub (Tk.right_sz ok hs hi)).mono (by omega)
theorem F_gaps_of_eq (ok : t.Ok) (hs : Sz p s) (hp : p ≤ 1000000) (hx : Its x t.n fun i => frD (v i)) (hv : ∀ i, i < t.n → Sz q (v i)) (hq : q ≤ 1000000) : F_gaps_of [t.dat, frD s, x] = some (vL t.h (t.gap s v)) := by
  have hn := ok.n4
  have hh := ok.h8
  have hc := F_rights_at_eq ok hs hp
  refine run_of (w := ([], 0, 0, 0)) rfl ?_
  unfold g_gaps_of
  simp [hc, zp2_its its_rows (its_vL (v := t.right s)), lst_its (show t.h ≤ 1000000 by omega)]
  rw [lcGo_vec (φ := fun i => frD (t.gap s v i))]
  · rfl
  · intro i hi
    refine ⟨⟨([], 0, 0, 0), [.s t.dat, .s (frD s), .s x, .s (t.rowD i), .s (frD (t.right s i))]⟩, ?_, rfl, ?_⟩
    · simp [Ev.wipe, wipeS]
    · obtain ⟨h1, _⟩ := F_inner8 (its_iT (v := t.A i)) hx (by omega) (fun j hj => ok.A i j hi hj) hv (by omega)
      rw [show (sumN t.n fun j => (t.A i j : Rat) * v j) = t.Ax v i from rfl] at h1
      have e := F_less_eq (Tk.Ax_sz ok hv hi) (Tk.right_sz ok hs hi) (by omega)
      simp [h1, e]
      rfl
theorem F_keeps_eq (ok : t.Ok) (hs : Sz p s) (hp : p ≤ 1000000) (hx : Its x t.n fun i => frD (v i)) (hv : ∀ i, i < t.n → Sz q (v i)) (hq : q ≤ 1000000) :
    ∃ β, F_keeps [t.dat, frD s, x] = some (PyData.bool β) ∧ (β = true ↔ ∀ i, i < t.h → 0 ≤ t.gap s v i) := by
  have hh := ok.h8
  have hg := F_gaps_of_eq ok hs hp hx hv hq
  refine ⟨(vecF t.h fun i => decide (0 ≤ t.gap s v i)).all id, ?_, ?_⟩
  · refine run_of (w := ([], 0, 0, 0)) rfl ?_
    unfold g_keeps
    simp [hg, lst_its (show t.h ≤ 1000000 by omega)]
    rw [lcGo_vec (φ := fun i => .bool (decide (0 ≤ t.gap s v i)))]
    · simp [d_all]
    · intro i hi
      refine ⟨⟨([], 0, 0, 0), [.s t.dat, .s (frD s), .s x, .s (frD (t.gap s v i))]⟩, ?_, rfl, ?_⟩
      · simp [Ev.wipe, wipeS]
      · simp
  · rw [List.all_eq_true]
    constructor
    · intro h i hi
      have := h (decide (0 ≤ t.gap s v i)) (List.mem_map.mpr ⟨i, List.mem_range.mpr hi, rfl⟩)
      simpa using this
    · intro h b hb
      obtain ⟨i, hi, rfl⟩ := mem_vec hb
      simpa using h i hi
theorem Tk.Aw_sz (ok : t.Ok) (hw : ∀ i, i < t.h → Sz q (w i)) {m j : Nat} (hm : m ≤ t.h) (hj : j < t.n) : Sz (8 * q + 100) (sumN m fun i => (t.A i j : Rat) * w i) := by
  have hb : m * (10 + q + 1) ≤ 8 * (10 + q + 1) := Nat.mul_le_mul_right _ (by have := ok.h8; omega)
  exact (sz_sum fun i hi => (sz10 (ok.A i j (by omega) hj)).mul (hw i (by omega))).mono (by omega)
theorem flat_rep {n : Nat} {a : D} : (List.replicate n [a]).flatten = vecF n fun _ => a := by
  refine vecF_ext (by simp) fun i hi => ?_
  rw [List.flatten_replicate_singleton, List.getElem?_replicate, if_pos hi]
theorem F_sum_of_rows_eq (ok : t.Ok) (hy : Its y t.h fun i => frD (w i)) (hw : ∀ i, i < t.h → Sz q (w i)) (hq : q ≤ 1000000) : F_sum_of_rows [t.dat, y] = some (vL t.n (t.Aw w)) := by
  have hn := ok.n4
  have hh := ok.h8
  refine run_of (w := ([], 0, 0, 0)) rfl ?_
  unfold g_sum_of_rows
  have hr : dRep (.list [.tuple [.int 0, .int 1]]) (.int (t.n : Int)) = some (vecF t.n fun _ => .tuple [.int 0, .int 1]) := by
    unfold dRep
    simp only
    rw [if_pos ⟨by omega, by omega, by simp⟩, Int.toNat_natCast, flat_rep]
  simp [hr, zp2_its its_rows hy]
  refine thn_for (fun i ρ => ∃ s3 s4, ρ = ⟨([], 0, 0, 0), [.s t.dat, .s y, .s (vL t.n fun j => sumN i fun k => (t.A k j : Rat) * w k), s3, s4, .no]⟩) ⟨_, _, rfl⟩ (fun i ρ hi hJ => ?_) (fun ρ hJ => ?_)
  · obtain ⟨s3, s4, rfl⟩ := hJ
    have e := F_added_eq (c := w i) (its_vL (n := t.n) (v := fun j => sumN i fun k => (t.A k j : Rat) * w k)) (its_vL (n := t.n) (v := fun j => (t.A i j : Rat))) (by omega) (fun j hj => Tk.Aw_sz ok hw (by omega) hj) (fun j hj => sz10 (ok.A i j hi hj)) (hw i hi) (by omega)
    have e2 : (vL t.n fun j => (sumN i fun k => (t.A k j : Rat) * w k) + w i * (t.A i j : Rat)) = vL t.n fun j => sumN (i + 1) fun k => (t.A k j : Rat) * w k := by
      congr 1
      funext j
      rw [Rat.mul_comm]
      rfl
    rw [e2] at e
    refine ⟨_, ?_, ⟨.s (t.rowD i), .s (frD (w i)), rfl⟩⟩
    simp [lst_its (show t.n ≤ 1000000 by omega)]
    rw [lcGo_vec (φ := fun j => frD (t.A i j : Rat))]
    · simp
      rw [show (PyData.list (vecF t.n fun j => frD (t.A i j : Rat)) : D) = vL t.n fun j => (t.A i j : Rat) from rfl]
      simp [e]
    · intro j hj
      refine ⟨⟨([], 0, 0, 0), [.s t.dat, .s y, .s (vL t.n fun j => sumN i fun k => (t.A k j : Rat) * w k), .s (t.rowD i), .s (frD (w i)), .s (.int (t.A i j))]⟩, ?_, rfl, ?_⟩
      · simp [Ev.wipe, wipeS]
      · simp
        rfl
  · obtain ⟨s3, s4, rfl⟩ := hJ
    simp
    rfl
theorem eqvAll_vec {n : Nat} {f g : Nat → D} : PyData.eqvAll (vecF n f) (vecF n g) = true ↔ ∀ i, i < n → PyData.eqv (f i) (g i) = true := by
  unfold vecF
  have key : ∀ l : List Nat, PyData.eqvAll (l.map f) (l.map g) = true ↔ ∀ i ∈ l, PyData.eqv (f i) (g i) = true := by
    intro l
    induction l with
    | nil => simp [PyData.eqvAll]
    | cons i l ih => simp [PyData.eqvAll, ih]
  rw [key]
  constructor
  · intro h i hi
    exact h i (List.mem_range.mpr hi)
  · intro h i hi
    exact h i (List.mem_range.mp hi)
theorem eqv_frD {a b : Rat} : PyData.eqv (frD a) (frD b) = true ↔ a = b := by
  unfold frD
  simp only [PyData.eqv, PyData.eqvAll, Bool.and_eq_true, beq_iff_eq, and_true]
  constructor
  · rintro ⟨h1, h2⟩
    exact Rat.ext h1 (by omega)
  · rintro rfl
    exact ⟨rfl, rfl⟩
theorem eqv_vL {n : Nat} {u v : Nat → Rat} : PyData.eqv (vL n u) (vL n v) = true ↔ ∀ i, i < n → u i = v i := by
  unfold vL
  rw [PyData.eqv, eqvAll_vec]
  exact ⟨fun h i hi => eqv_frD.mp (h i hi), fun h i hi => eqv_frD.mpr (h i hi)⟩
theorem sh_vL {n : Nat} {u : Nat → Rat} : Sh 2 (vL n u) := sh_list fun d hd => by
  obtain ⟨i, _, rfl⟩ := mem_vec hd
  exact sh_frD _
/-- a plan and weights that show each other -/
def Tk.FitAt (t : Tk) (s : Rat) (v w : Nat → Rat) (i : Nat) : Prop := 0 ≤ t.gap s v i ∧ 0 ≤ w i ∧ ¬ (0 < w i ∧ 0 < t.gap s v i)
def Tk.Fit (t : Tk) (s : Rat) (v w : Nat → Rat) (n : Nat) : Prop := ∀ i, i < n → t.FitAt s v w i
def Tk.Shows (t : Tk) (s : Rat) (v w : Nat → Rat) : Prop := t.Fit s v w t.h ∧ ∀ j, j < t.n → t.slope s v j = t.Aw w j
theorem Tk.Fit.succ {i : Nat} (h : t.Fit s v w i) (h1 : t.FitAt s v w i) : t.Fit s v w (i + 1) := fun k hk => by
  by_cases e : k = i
  · subst e; exact h1
  · exact h k (by omega)
/-- d tells whether P -/
def Tells (P : Prop) (d : D) : Prop := ∃ β, d = .bool β ∧ (β = true ↔ P)
theorem tells_t {P : Prop} (h : P) : Tells P (.bool true) := ⟨true, rfl, ⟨fun _ => h, fun _ => rfl⟩⟩
theorem tells_f {P : Prop} (h : ¬ P) : Tells P (.bool false) := ⟨false, rfl, ⟨fun z => (by cases z), fun z => (h z).elim⟩⟩
/-- an outcome that returns a thing of which P holds -/
def RetP (P : D → Prop) : Oc → Prop
  | .ret d _ => P d
  | .nx _ => P .none
  | _ => False
theorem run_ret {g : MS} {n N : Nat} {ds : List D} {P : D → Prop} (hl : ds.length = n) (h : wp (g ⟨([], 0, 0, 0), ds.map Sl.s ++ List.replicate (N - n) .no⟩) (RetP P)) : ∃ d, runP g n N ds = some d ∧ P d := by
  obtain ⟨oc, e, h⟩ := h
  exact run_wp hl ⟨oc, e, by cases oc <;> exact h⟩
theorem F_shows_of_eq (ok : t.Ok) (hs : Sz p s) (hp : p ≤ 1000000) (hx : Its x t.n fun i => frD (v i)) (hv : ∀ i, i < t.n → Sz q (v i)) (hq : q ≤ 1000000) (hy : Its y t.h fun i => frD (w i)) (hw : ∀ i, i < t.h → Sz q (w i)) :
    ∃ d, F_shows_of [t.dat, frD s, x, y] = some d ∧ Tells (t.Shows s v w) d := by
  have hh := ok.h8
  have hg := F_gaps_of_eq ok hs hp hx hv hq
  have hsl := F_slope_of_eq ok hs hp hx hv hq
  have hsu := F_sum_of_rows_eq ok hy hw hq
  refine run_ret rfl ?_
  unfold g_shows_of
  simp [hg, zp2_its (its_vL (v := t.gap s v)) hy]
  refine wp_thn (fun ρ => t.Fit s v w t.h ∧ ∃ s5 s6, ρ = ⟨([], 0, 0, 0), [.s t.dat, .s (frD s), .s x, .s y, .s (vL t.h (t.gap s v)), s5, s6]⟩) ?_ ?_
  · refine wp_for (fun i ρ => t.Fit s v w i ∧ ∃ s5 s6, ρ = ⟨([], 0, 0, 0), [.s t.dat, .s (frD s), .s x, .s y, .s (vL t.h (t.gap s v)), s5, s6]⟩) ⟨fun k hk => absurd hk (Nat.not_lt_zero _), _, _, rfl⟩ ?_ ?_
    · rintro i ρ hi ⟨h1, s5, s6, rfl⟩
      by_cases hc : t.FitAt s v w i
      · have c1 : ¬ t.gap s v i < 0 := Rat.not_lt.mpr hc.1
        have c2 : ¬ w i < 0 := Rat.not_lt.mpr hc.2.1
        have hn := Tk.Fit.succ h1 hc
        by_cases c3 : 0 < w i
        · have c4 : ¬ 0 < t.gap s v i := fun z => hc.2.2 ⟨c3, z⟩
          simp [c1, c2, c3, c4]
          exact wp_some ⟨hn, _, _, rfl⟩
        · simp [c1, c2, c3]
          exact wp_some ⟨hn, _, _, rfl⟩
      · have no : ¬ t.Shows s v w := fun z => hc (z.1 i hi)
        by_cases c1 : t.gap s v i < 0
        · simp [c1]
          exact wp_some (tells_f no)
        · by_cases c2 : w i < 0
          · simp [c1, c2]
            exact wp_some (tells_f no)
          · have c3 : 0 < w i ∧ 0 < t.gap s v i := Classical.byContradiction fun z => hc ⟨Rat.not_lt.mp c1, Rat.not_lt.mp c2, z⟩
            simp [c1, c2, c3.1, c3.2]
            exact wp_some (tells_f no)
    · rintro ρ h
      exact h
  · rintro ρ ⟨h1, s5, s6, rfl⟩
    simp [hsl, hsu, d_eqSh sh_vL sh_vL]
    refine wp_some ⟨_, rfl, ?_⟩
    rw [eqv_vL]
    exact ⟨fun z => ⟨h1, z⟩, fun z => z.2⟩
end
end PX

namespace PX
open PySem L2 DL PG
section
variable {t : Tk} {s : Rat} {p q : Nat} {v w : Nat → Rat} {x y : D}
/-! ### what a task must be -/
theorem F_is_turned_eq (ok : t.Ok) : F_is_turned [t.sqD] = some (.bool true) := by
  have hn := ok.n4
  refine run_of (w := ([], 0, 0, 0)) rfl ?_
  unfold g_is_turned
  simp [d_range (show t.n ≤ 1000000 by omega), lst_its (show t.n ≤ 1000000 by omega)]
  rw [lcGo_vec (φ := fun i => iT t.n (t.M i))]
  · simp
    rw [show (PyData.tuple (vecF t.n fun i => iT t.n (t.M i)) : D) = t.sqD from rfl]
    have sh : Sh 2 t.sqD := sh_tuple fun d hd => by
      obtain ⟨i, _, rfl⟩ := mem_vec hd
      exact sh_tuple fun d hd => by
        obtain ⟨i, _, rfl⟩ := mem_vec hd
        exact sh_int _
    rw [d_eqSh sh sh (by decide) (by decide), SeqAt.eqv_refl _ sh.1]
    rfl
  · intro i hi
    refine ⟨⟨([], 0, 0, 0), [.s t.sqD, .s (.int i), .no]⟩, ?_, rfl, ?_⟩
    · simp [Ev.wipe, wipeS]
    · simp [lst_its (show t.n ≤ 1000000 by omega)]
      rw [lcGo_vec (φ := fun j => .int (t.M i j))]
      · simp
        rfl
      · intro j hj
        refine ⟨⟨([], 0, 0, 0), [.s t.sqD, .s (.int i), .s (iT t.n (t.M j))]⟩, ?_, rfl, ?_⟩
        · simp [Ev.wipe, wipeS]
        · simp [ix_its (its_iT (v := t.M j)) hi, ok.sym i j hi hj]
theorem F_is_task_row_eq (ok : t.Ok) {i : Nat} (hi : i < t.h) : F_is_task_row [t.rowD i, .int (t.n : Nat)] = some (.bool true) := by
  have hn := ok.n4
  have e1 := F_is_row_eq (n := t.n) (r := t.A i) (by omega) fun j hj => ok.A i j hi hj
  have e2 := F_is_small_eq (ok.b i hi)
  have e3 := F_is_small_eq (ok.e i hi)
  refine run_of (w := ([], 0, 0, 0)) rfl ?_
  unfold g_is_task_row Tk.rowD
  simp [e1, e2, e3]
theorem F_need_share_eq : F_need_share [frD s] = some .none := by
  refine run_nx (ρ := ⟨([], 0, 0, 0), [.s (frD s)]⟩) rfl ?_
  unfold g_need_share
  simp [F_is_fraction_eq]
theorem F_need_plan_eq {n : Nat} (hn : n ≤ 1000) : F_need_plan [vT n v, .int (n : Nat)] = some .none := by
  refine run_nx (ρ := ⟨([], 0, 0, 0), [.s (vT n v), .s (.int n), .no]⟩) rfl ?_
  unfold g_need_plan
  simp [vT, lst_its (show n ≤ 1000000 by omega)]
  rw [lcGo_vec (φ := fun _ => .bool true)]
  · simp [d_allT]
  · intro i hi
    refine ⟨⟨([], 0, 0, 0), [.s (vT n v), .s (.int n), .s (frD (v i))]⟩, ?_, rfl, ?_⟩
    · simp [Ev.wipe, wipeS, vT]
    · simp [F_is_fraction_eq]
/-! ### positive: is_above -/
/-- rows told as sums of the rows of M -/
structure Abv (n b : Nat) (M : Tab) (a : Nat) (T : Tab) : Prop where
  z : ∀ i, a ≤ i → i < n → ∃ z : Nat → Rat, z i = 1 ∧ (∀ k, a ≤ k → k ≠ i → z k = 0) ∧ ∀ j, T i j = sumN n fun k => z k * M k j
  o : ∀ i j, a ≤ i → i < n → j < a → T i j = 0
  s : TSz n n (bd b a) T
theorem Abv.pos {n b a : Nat} {M T : Tab} (h : Abv n b M a T) (ha : a < n) (pd : ∀ z : Nat → Rat, (∃ i, i < n ∧ z i ≠ 0) → 0 < sumN n fun i => z i * sumN n fun j => M i j * z j) : 0 < T a a := by
  obtain ⟨z, z1, z2, z3⟩ := h.z a (Nat.le_refl a) ha
  have p := pd z ⟨a, ha, by rw [z1]; decide⟩
  have e : (sumN n fun i => z i * sumN n fun j => M i j * z j) = sumN n fun j => T a j * z j := by
    have e1 : (sumN n fun i => z i * sumN n fun j => M i j * z j) = sumN n fun i => sumN n fun j => z i * (M i j * z j) := sumN_congr fun i _ => sumN_mul.symm
    rw [e1, sumN_comm]
    refine sumN_congr fun j _ => ?_
    rw [z3 j, ← sumN_mul_right]
    exact sumN_congr fun i _ => by grind
  rw [e, sumN_one ha fun j hj hn => ?_, z1, Rat.mul_one] at p
  · exact p
  · by_cases hja : j < a
    · rw [h.o a j (Nat.le_refl a) ha hja, Rat.zero_mul]
    · rw [z2 j (by omega) hn, Rat.mul_zero]
/-- the rows behind a, freed of column a, up to k -/
def abvK (T : Tab) (a k : Nat) : Tab := fun i => if a < i ∧ i < k then (fun j => T i j + -(T i a / T a a) * T a j) else T i
theorem abvK_set {T : Tab} {a k : Nat} (h : a < k) : updT (abvK T a k) k (fun j => T k j + -(T k a / T a a) * T a j) = abvK T a (k + 1) := by
  funext i
  unfold updT abvK
  by_cases hi : i = k
  · subst hi
    rw [if_pos rfl, if_pos ⟨h, by omega⟩]
  · rw [if_neg hi]
    by_cases h2 : a < i ∧ i < k
    · rw [if_pos h2, if_pos ⟨h2.1, by omega⟩]
    · rw [if_neg h2, if_neg (by omega)]
theorem Abv.step {n b a : Nat} {M T : Tab} (h : Abv n b M a T) (ha : a < n) (h0 : T a a ≠ 0) : Abv n b M (a + 1) (abvK T a n) := by
  obtain ⟨z, z1, z2, z3⟩ := h.z a (Nat.le_refl a) ha
  refine ⟨fun i hai hi => ?_, fun i j hai hi hj => ?_, fun i j hi hj => ?_⟩
  · obtain ⟨y, y1, y2, y3⟩ := h.z i (by omega) hi
    refine ⟨fun k => y k + -(T i a / T a a) * z k, ?_, fun k hk hki => ?_, fun j => ?_⟩
    · show y i + -(T i a / T a a) * z i = 1
      rw [y1, z2 i (by omega) (by omega)]
      grind
    · show y k + -(T i a / T a a) * z k = 0
      rw [y2 k (by omega) hki, z2 k (by omega) (by omega)]
      grind
    · unfold abvK
      rw [if_pos ⟨by omega, hi⟩]
      show T i j + -(T i a / T a a) * T a j = _
      rw [y3 j, z3 j, ← sumN_mul, ← sumN_add]
      generalize -(T i a / T a a) = c
      exact sumN_congr fun k _ => by grind
  · unfold abvK
    rw [if_pos ⟨by omega, hi⟩]
    show T i j + -(T i a / T a a) * T a j = 0
    by_cases e : j = a
    · subst e
      have := Rat.mul_inv_cancel _ h0
      rw [Rat.div_def]
      grind
    · rw [h.o i j (by omega) hi (by omega), h.o a j (Nat.le_refl a) ha (by omega)]
      grind
  · show Sz (4 * bd b a + 1) _
    unfold abvK
    by_cases e : a < i ∧ i < n
    · rw [if_pos e]
      exact ((h.s i j hi hj).add (((h.s i a hi ha).div (h.s a a ha ha) h0).neg.mul (h.s a j ha hj))).mono (by omega)
    · rw [if_neg e]
      exact (h.s i j hi hj).mono (by omega)
theorem F_is_above_eq (ok : t.Ok) : F_is_above [t.sqD] = some (.bool true) := by
  have hn := ok.n4
  have hb4 : bd 10 4 = 2645 := rfl
  have hb : ∀ a, a < t.n → 4 * bd 10 a + 1 ≤ 2645 := fun a ha => by
    have : bd 10 (a + 1) ≤ bd 10 4 := bd_le (by omega)
    rw [hb4] at this
    exact this
  obtain ⟨d, e, rfl⟩ : ∃ d, runP g_is_above 1 7 [t.sqD] = some d ∧ d = .bool true := by
    refine run_ret (P := fun d => d = .bool true) rfl ?_
    unfold g_is_above
    simp [lst_its (show t.n ≤ 1000000 by omega)]
    rw [lcGo_vec (φ := fun i => vL t.n fun j => (t.M i j : Rat))]
    · simp
      rw [show (vecF t.n fun i => vL t.n fun j => (t.M i j : Rat)) = tabD t.n t.n (fun i j => (t.M i j : Rat)) from rfl]
      simp [d_range (show t.n ≤ 1000000 by omega)]
      refine wp_thn (fun ρ => ∃ l, ρ = ⟨([], 0, 0, 0), l⟩) ?_ ?_
      · refine wp_for (fun a ρ => ∃ T s2 s3 s4, Abv t.n 10 (fun i j => (t.M i j : Rat)) a T ∧ ρ = ⟨([], 0, 0, 0), [.s t.sqD, .o (tabD t.n t.n T), s2, s3, s4, .no, .no]⟩) ⟨_, _, _, _, ⟨fun i _ hi => ⟨fun k => if k = i then 1 else 0, if_pos rfl, fun k _ hk => if_neg hk, fun j => ?_⟩, fun i j _ _ h => absurd h (Nat.not_lt_zero _), fun i j hi hj => sz10 (ok.M i j hi hj)⟩, rfl⟩ ?_ ?_
        · rw [sumN_one hi fun k hk hki => by simp only [if_neg hki, Rat.zero_mul]]
          simp only [if_true, Rat.one_mul]
        · rintro a ρ ha ⟨T, s2, s3, s4, h, rfl⟩
          have hpos := h.pos ha ok.pd
          have h0 : T a a ≠ 0 := fun z => by rw [z] at hpos; exact absurd hpos (by decide)
          have hle : ¬ (T a a).num ≤ 0 := by have := numgt.mpr hpos; omega
          have h' := h.step ha h0
          have hba := hb a ha
          have er : dRange (.int ((a : Int) + 1)) (.int (t.n : Int)) = some (vecF (t.n - (a + 1)) fun i => .int ((a + 1 + i : Nat) : Int)) := d_range2 (a := a + 1) (b := t.n) (by omega) (by omega)
          simp [tab_ix ha, vL_ix ha, hle, er]
          refine wp_for (fun k ρ => ∃ s3 s4, ρ = ⟨([], 0, 0, 0), [.s t.sqD, .o (tabD t.n t.n (abvK T a (a + 1 + k))), .s (.int a), s3, s4, .no, .no]⟩) ⟨s3, s4, ?_⟩ ?_ ?_
          · have e0 : abvK T a (a + 1 + 0) = T := by
              funext i
              unfold abvK
              rw [if_neg (by omega)]
            rw [e0]
          · rintro k ρ hk ⟨t3, t4, rfl⟩
            obtain ⟨r, er⟩ : ∃ r : Nat, r = a + 1 + k := ⟨_, rfl⟩
            have hr : r < t.n := by omega
            have har : a < r := by omega
            rw [show a + 1 + (k + 1) = r + 1 by omega, ← er]
            have ea : abvK T a r a = T a := by
              unfold abvK
              rw [if_neg (by omega)]
            have ek : abvK T a r r = T r := by
              unfold abvK
              rw [if_neg (by omega)]
            have e1 := F_over_eq (h.s r a hr ha) (h.s a a ha ha) (by omega) h0
            have e2 := F_added_eq (its_vL (n := t.n) (v := T r)) (its_vL (v := T a)) (by omega) (fun j hj => h.s r j hr hj) (fun j hj => h.s a j ha hj) ((h.s r a hr ha).div (h.s a a ha ha) h0).neg (by omega)
            rw [frD_neg] at e2
            have eri : (a : Int) + 1 + (k : Int) = (r : Int) := by omega
            simp [eri, tab_ix ha, tab_ix hr, ea, ek, vL_ix ha, e1, e2, tab_st hr, abvK_set har]
            exact wp_some ⟨_, _, rfl⟩
          · rintro ρ ⟨t3, t4, rfl⟩
            rw [show a + 1 + (t.n - (a + 1)) = t.n by omega]
            exact ⟨_, h', _, _, _, rfl⟩
        · rintro ρ ⟨T, s2, s3, s4, h, rfl⟩
          exact ⟨_, rfl⟩
      · rintro ρ ⟨l, rfl⟩
        simp
        exact wp_some rfl
    · intro i hi
      refine ⟨⟨([], 0, 0, 0), [.s t.sqD, .no, .no, .no, .no, .s (iT t.n (t.M i)), .no]⟩, ?_, rfl, ?_⟩
      · simp [Ev.wipe, wipeS]
      · simp [lst_its (show t.n ≤ 1000000 by omega)]
        rw [lcGo_vec (φ := fun j => frD (t.M i j : Rat))]
        · rfl
        · intro j hj
          refine ⟨⟨([], 0, 0, 0), [.s t.sqD, .no, .no, .no, .no, .s (iT t.n (t.M i)), .s (.int (t.M i j))]⟩, ?_, rfl, ?_⟩
          · simp [Ev.wipe, wipeS]
          · simp
            rfl
  exact e
end
end PX

namespace PX
open PySem L2 DL PG
section
variable {t : Tk} {s : Rat} {p q : Nat} {v w : Nat → Rat} {x y : D}
theorem F_need_task_eq (ok : t.Ok) : F_need_task [t.dat] = some .none := by
  have hn := ok.n4
  have h1 := ok.n1
  have hh := ok.h8
  have e1 := F_is_turned_eq ok
  have e2 := F_is_above_eq ok
  have e3 := F_is_row_eq (n := t.n) (r := t.c) (by omega) ok.c
  have e4 := F_is_row_eq (n := t.n) (r := t.d) (by omega) ok.d
  have c1 : (1 : Int) ≤ (t.n : Int) := by omega
  have c2 : (t.n : Int) ≤ 4 := by omega
  have c3 : ¬ (8 : Int) < (t.h : Int) := by omega
  have i1 : dIsi "tuple" t.sqD = some (.bool true) := isi_tt
  have i2 : dIsi "tuple" t.rowsD = some (.bool true) := isi_tt
  obtain ⟨d, e, rfl⟩ : ∃ d, runP g_need_task 1 7 [t.dat] = some d ∧ d = .none := by
    refine run_ret (P := fun d => d = .none) rfl ?_
    unfold g_need_task
    have i0 : dIsi "tuple" t.dat = some (.bool true) := isi_tt
    have l0 : dLen t.dat = some (.int 4) := rfl
    simp [i0, l0]
    unfold Tk.dat
    simp [i1, c1, c2, lst_its (show t.n ≤ 1000000 by omega)]
    rw [lcGo_vec (φ := fun _ => .bool true)]
    · simp [d_allT, e1, e2, e3, e4, i2, c3, lst_its (show t.h ≤ 1000000 by omega)]
      rw [lcGo_vec (φ := fun _ => .bool true)]
      · simp [d_allT]
        exact wp_some rfl
      · intro i hi
        refine ⟨⟨([], 0, 0, 0), [.s (.tuple [t.sqD, iT t.n t.c, iT t.n t.d, t.rowsD]), .s t.sqD, .s (iT t.n t.c), .s (iT t.n t.d), .s t.rowsD, .s (.int t.n), .s (t.rowD i)]⟩, ?_, rfl, ?_⟩
        · simp [Ev.wipe, wipeS]
        · simp [F_is_task_row_eq ok hi]
    · intro i hi
      refine ⟨⟨([], 0, 0, 0), [.s (.tuple [t.sqD, iT t.n t.c, iT t.n t.d, t.rowsD]), .s t.sqD, .s (iT t.n t.c), .s (iT t.n t.d), .s t.rowsD, .s (.int t.n), .s (iT t.n (t.M i))]⟩, ?_, rfl, ?_⟩
      · simp [Ev.wipe, wipeS]
      · simp [F_is_row_eq (n := t.n) (r := t.M i) (by omega) fun j hj => ok.M i j hi hj]
  exact e
theorem F_need_both_eq (ok : t.Ok) : F_need_both [t.dat, frD s] = some .none := by
  refine run_nx (ρ := ⟨([], 0, 0, 0), [.s t.dat, .s (frD s)]⟩) rfl ?_
  unfold g_need_both
  simp [F_need_task_eq ok, F_need_share_eq]
theorem F_worth_eq (ok : t.Ok) (hs : Sz p s) (hp : p ≤ 1000000) (hv : ∀ i, i < t.n → Sz q (v i)) (hq : q ≤ 1000000) : F_worth [t.dat, frD s, vT t.n v] = some (frD (t.worth s v)) := by
  have hn := ok.n4
  refine run_of (w := ([], 0, 0, 0)) rfl ?_
  unfold g_worth
  simp [F_need_both_eq ok, F_need_plan_eq (n := t.n) (v := v) (by omega), F_worth_of_eq ok hs hp its_vT rfl hv hq]
theorem F_is_kept_eq (ok : t.Ok) (hs : Sz p s) (hp : p ≤ 1000000) (hv : ∀ i, i < t.n → Sz q (v i)) (hq : q ≤ 1000000) : ∃ d, F_is_kept [t.dat, frD s, vT t.n v] = some d ∧ Tells (∀ i, i < t.h → 0 ≤ t.gap s v i) d := by
  have hn := ok.n4
  obtain ⟨β, e, h⟩ := F_keeps_eq ok hs hp (its_vT (n := t.n) (v := v)) hv hq
  refine ⟨.bool β, ?_, β, rfl, h⟩
  refine run_of (w := ([], 0, 0, 0)) rfl ?_
  unfold g_is_kept
  simp [F_need_both_eq ok, F_need_plan_eq (n := t.n) (v := v) (by omega), e]
theorem F_shows_eq (ok : t.Ok) (hs : Sz p s) (hp : p ≤ 1000000) (hv : ∀ i, i < t.n → Sz q (v i)) (hq : q ≤ 1000000) (hw : ∀ i, i < t.h → Sz q (w i)) : ∃ d, F_shows [t.dat, frD s, vT t.n v, vT t.h w] = some d ∧ Tells (t.Shows s v w) d := by
  have hn := ok.n4
  have hh := ok.h8
  obtain ⟨d, e, h⟩ := F_shows_of_eq ok hs hp (its_vT (n := t.n) (v := v)) hv hq (its_vT (n := t.h) (v := w)) hw
  refine ⟨d, ?_, h⟩
  refine run_of (w := ([], 0, 0, 0)) rfl ?_
  unfold g_shows
  simp [F_need_both_eq ok, F_need_plan_eq (n := t.n) (v := v) (by omega), F_need_plan_eq (n := t.h) (v := w) (by omega), e]
theorem any_vec {n : Nat} {b : Nat → Bool} : (vecF n b).any id = true ↔ ∃ i, i < n ∧ b i = true := by
  rw [List.any_eq_true]
  constructor
  · rintro ⟨x, hx, h⟩
    obtain ⟨i, hi, rfl⟩ := mem_vec hx
    exact ⟨i, hi, h⟩
  · rintro ⟨i, hi, h⟩
    exact ⟨b i, List.mem_map.mpr ⟨i, List.mem_range.mpr hi, rfl⟩, h⟩
theorem any_false {n : Nat} {b : Nat → Bool} (h : ∀ i, i < n → b i = false) : (vecF n b).any id = false := by
  cases e : (vecF n b).any id with
  | false => rfl
  | true =>
    obtain ⟨i, hi, h2⟩ := any_vec.mp e
    rw [h i hi] at h2
    cases h2
/-- the promise's parts -/
def Tk.free (t : Tk) (s : Rat) (w : Nat → Rat) (j : Nat) : Rat := t.Aw w j - t.cost s j
/-- d is the promise of w -/
def Tk.Prom (t : Tk) (s : Rat) (w : Nat → Rat) (d : D) : Prop := ∃ X : Nat → Rat, (∀ i, i < t.n → t.Mx X i = t.free s w i) ∧ d = frD (- sumN t.n (fun j => t.free s w j * X j / 2) + t.lim s w)
theorem Tk.no_null (ok : t.Ok) : ¬ ∃ z : Nat → Rat, (∃ j, j < t.n ∧ z j ≠ 0) ∧ ∀ i, i < t.n → sumN t.n (fun j => (t.M i j : Rat) * z j) = 0 := by
  rintro ⟨z, h1, h2⟩
  have h := ok.pd z h1
  rw [sumN_zero fun i hi => by rw [h2 i hi, Rat.mul_zero]] at h
  exact absurd h (by decide)
theorem bd4 {b n : Nat} (hn : n ≤ 4) : bd b n ≤ 256 * b + 85 := by
  have h1 : bd b n ≤ bd b 4 := bd_le hn
  have h2 : bd b 4 = 4 * (4 * (4 * (4 * b + 1) + 1) + 1) + 1 := rfl
  omega
theorem half_eq (a : Rat) : a / 2 = a / 2 := rfl
theorem F_promise_of_ok (ok : t.Ok) (hs : Sz p s) (hp : p ≤ 5000) (hy : Its y t.h fun i => frD (w i)) (hys : slL (.s y) = some y) (hw : ∀ i, i < t.h → Sz q (w i)) (hq : q ≤ 5000) : ∃ d, F_promise_of [t.dat, frD s, y] = some d ∧ t.Prom s w d := by
  have hn := ok.n4
  have hh := ok.h8
  have hsu := F_sum_of_rows_eq ok hy hw (by omega)
  have hc := F_costs_at_eq ok hs (by omega)
  have hr := F_rights_at_eq ok hs (by omega)
  have zA : ∀ j, j < t.n → Sz (8 * q + 100) (t.Aw w j) := fun j hj => Tk.Aw_sz ok hw (Nat.le_refl _) hj
  have m1 : Sz 1 (-1) := ⟨by decide, by decide⟩
  have ha := F_added_eq (c := -1) (its_vL (n := t.n) (v := t.Aw w)) (its_vL (v := t.cost s)) (by omega) zA (fun i hi => Tk.cost_sz ok hs hi) m1 (by omega)
  rw [show frD (-1) = .tuple [.int (-1), .int 1] from rfl] at ha
  have e : (vL t.n fun i => t.Aw w i + -1 * t.cost s i) = vL t.n (t.free s w) := by
    congr 1
    funext i
    unfold Tk.free
    grind
  rw [e] at ha
  have zf : ∀ j, j < t.n → Sz (8 * q + p + 122) (t.free s w j) := fun j hj => ((zA j hj).sub (Tk.cost_sz ok hs hj)).mono (by omega)
  refine run_ret rfl ?_
  unfold g_promise_of
  simp [hsu, hc, ha, lst_its (show t.n ≤ 1000000 by omega)]
  rw [lcGo_vec (φ := fun i => vL t.n fun j => (t.M i j : Rat))]
  · obtain ⟨d, e1, e2⟩ := F_solved_ok (b := 8 * q + p + 122) (rows := .list (vecF t.n fun i => vL t.n fun j => (t.M i j : Rat))) (sides := .list [vL t.n (t.free s w)]) (r := fun i => vL t.n fun j => (t.M i j : Rat)) (sd := fun _ => vL t.n (t.free s w)) (R := fun i j => (t.M i j : Rat)) (S := fun _ => t.free s w) (n := t.n) (m := 1) rfl (fun i hi => rfl) rfl (fun i hi => rfl) (by omega) (by decide)
      (fun i j hi hj => (sz10 (ok.M i j hi hj)).mono (by omega)) (fun s i _ hi => zf i hi) (by have := bd4 (b := 8 * q + p + 122) hn; omega)
    rcases e2 with ⟨_, hz⟩ | ⟨X, rfl, hX, zX⟩
    · exact absurd hz (Tk.no_null ok)
    · simp only [show vecF 1 (fun s => vL t.n (X s)) = [vL t.n (X 0)] from rfl] at e1
      simp [e1]
      have hX0 := (hX 0 (by decide) (X 0)).mpr fun _ _ => rfl
      have zX0 : ∀ i, i < t.n → Sz (256 * (8 * q + p + 122) + 85) (X 0 i) := fun i hi => (zX 0 i (by decide) hi).mono (bd4 hn)
      simp [zp2_its (its_vL (v := t.free s w)) (its_vL (v := X 0))]
      have zt : ∀ j, j < t.n → Sz (257 * (8 * q + p + 122) + 87) (t.free s w j * X 0 j / 2) := fun j hj => (((zf j hj).mul (zX0 j hj)).div sz2 two_ne).mono (by omega)
      have zsum : ∀ i, i ≤ t.n → Sz (4 * (257 * (8 * q + p + 122) + 88) + 1) (sumN i fun j => t.free s w j * X 0 j / 2) := fun i hi => (sz_sum fun j hj => zt j (by omega)).mono (by
        have : i * (257 * (8 * q + p + 122) + 87 + 1) ≤ 4 * (257 * (8 * q + p + 122) + 87 + 1) := Nat.mul_le_mul_right _ (by omega)
        omega)
      refine wp_thn (fun ρ => ∃ s6 s7, ρ = ⟨([], 0, 0, 0), [.s t.dat, .s (frD s), .s y, .s (vL t.n (t.free s w)), .s (vL t.n (X 0)), .s (frD (- sumN t.n fun j => t.free s w j * X 0 j / 2)), s6, s7, .no, .no, .no]⟩) ?_ ?_
      · refine wp_for (fun i ρ => ∃ s6 s7, ρ = ⟨([], 0, 0, 0), [.s t.dat, .s (frD s), .s y, .s (vL t.n (t.free s w)), .s (vL t.n (X 0)), .s (frD (- sumN i fun j => t.free s w j * X 0 j / 2)), s6, s7, .no, .no, .no]⟩) ⟨_, _, rfl⟩ ?_ ?_
        · rintro i ρ hi ⟨s6, s7, rfl⟩
          have f1 := F_times_eq (zf i hi) (zX0 i hi) (by omega)
          have f2 := F_over_eq ((zf i hi).mul (zX0 i hi)) sz2 (by omega) two_ne
          have f3 := F_less_eq (zsum i (by omega)).neg (zt i hi) (by omega)
          rw [frD_2] at f2
          have f4 : (- sumN i fun j => t.free s w j * X 0 j / 2) - t.free s w i * X 0 i / 2 = - sumN (i + 1) fun j => t.free s w j * X 0 j / 2 := by
            show _ = - ((sumN i fun j => t.free s w j * X 0 j / 2) + t.free s w i * X 0 i / 2)
            grind
          rw [f4] at f3
          simp [f1, f2, f3]
          exact wp_some ⟨_, _, rfl⟩
        · rintro ρ h
          exact h
      · rintro ρ ⟨s6, s7, rfl⟩
        simp [hr, zp2_its (its_vL (v := t.right s)) hy]
        have zr : ∀ j, j < t.h → Sz (q + p + 21) (t.right s j * w j) := fun j hj => ((Tk.right_sz ok hs hj).mul (hw j hj)).mono (by omega)
        have zrs : ∀ i, i ≤ t.h → Sz (8 * (q + p + 22) + 1) (sumN i fun j => t.right s j * w j) := fun i hi => (sz_sum fun j hj => zr j (by omega)).mono (by
          have : i * (q + p + 21 + 1) ≤ 8 * (q + p + 21 + 1) := Nat.mul_le_mul_right _ (by omega)
          omega)
        refine wp_thn (fun ρ => ∃ l, ρ = ⟨([], 0, 0, 0), .s t.dat :: .s (frD s) :: .s y :: .s (vL t.n (t.free s w)) :: .s (vL t.n (X 0)) :: .s (frD ((- sumN t.n fun j => t.free s w j * X 0 j / 2) + t.lim s w)) :: l⟩) ?_ ?_
        · refine wp_for (fun i ρ => ∃ s8 s9, ρ = ⟨([], 0, 0, 0), [.s t.dat, .s (frD s), .s y, .s (vL t.n (t.free s w)), .s (vL t.n (X 0)), .s (frD ((- sumN t.n fun j => t.free s w j * X 0 j / 2) + sumN i fun j => t.right s j * w j)), s6, s7, s8, s9, .no]⟩) ⟨_, _, by rw [show (sumN 0 fun j => t.right s j * w j) = 0 from rfl, Rat.add_zero]⟩ ?_ ?_
          · rintro i ρ hi ⟨s8, s9, rfl⟩
            have f1 := F_times_eq (Tk.right_sz ok hs hi) (hw i hi) (by omega)
            have f2 := F_plus_eq ((zsum t.n (Nat.le_refl _)).neg.add (zrs i (by omega))) (zr i hi) (by omega)
            have f4 : ((- sumN t.n fun j => t.free s w j * X 0 j / 2) + sumN i fun j => t.right s j * w j) + t.right s i * w i = (- sumN t.n fun j => t.free s w j * X 0 j / 2) + sumN (i + 1) fun j => t.right s j * w j := by
              show _ = _ + ((sumN i fun j => t.right s j * w j) + t.right s i * w i)
              grind
            rw [f4] at f2
            simp [f1, f2]
            exact wp_some ⟨_, _, rfl⟩
          · rintro ρ ⟨s8, s9, rfl⟩
            exact ⟨_, rfl⟩
        · rintro ρ ⟨l, rfl⟩
          simp
          exact wp_some ⟨X 0, hX0, rfl⟩
  · intro i hi
    refine ⟨⟨([], 0, 0, 0), [.s t.dat, .s (frD s), .s y, .s (vL t.n (t.free s w)), .no, .no, .no, .no, .no, .no, .s (iT t.n (t.M i))]⟩, ?_, rfl, ?_⟩
    · simp [Ev.wipe, wipeS]
    · simp [lst_its (show t.n ≤ 1000000 by omega)]
      rw [lcGo_vec (φ := fun j => frD (t.M i j : Rat))]
      · rfl
      · intro j hj
        refine ⟨⟨([], 0, 0, 0), [.s t.dat, .s (frD s), .s y, .s (vL t.n (t.free s w)), .no, .no, .s (.int (t.M i j)), .no, .no, .no, .s (iT t.n (t.M i))]⟩, ?_, rfl, ?_⟩
        · simp [Ev.wipe, wipeS]
        · simp
          rfl
end
end PX

namespace PX
open PySem L2 DL PG
/-! ### a list of one's own, shared from here on -/
def fzS : Sl → Sl
  | .o ds => .s (.list ds)
  | x => x
@[simp] theorem fzS_o {ds : List D} : fzS (.o ds) = .s (.list ds) := (rfl)
theorem set_self {ρ : Ev} {i : Nat} : ρ.set i (ρ.get i) = ρ := by
  obtain ⟨r, sl⟩ := ρ
  unfold Ev.set Ev.get
  congr 1
  apply List.ext_getElem?
  intro j
  rw [List.getElem?_set]
  by_cases h : i = j
  · subst h
    rw [if_pos rfl, List.getD_eq_getElem?_getD]
    by_cases h2 : i < sl.length
    · rw [if_pos h2, List.getElem?_eq_getElem h2]
      rfl
    · rw [if_neg h2, List.getElem?_eq_none (by omega)]
  · rw [if_neg h]
@[simp] theorem e_gfz {i : Nat} {g : MS} {ρ : Ev} : gFz i g ρ = g (ρ.set i (fzS (ρ.get i))) := by
  unfold gFz Ev.fz
  cases e : ρ.get i with
  | o ds => rfl
  | _ =>
    have := set_self (ρ := ρ) (i := i)
    rw [e] at this
    simp only [fzS]
    rw [this]
theorem ap_o {l : List D} {d : D} (h : l.length < 1000000) : apO (.o l) d = some (.o (l ++ [d])) := by
  unfold apO
  simp only
  rw [if_pos h]
section
variable {t : Tk} {s : Rat} {p q : Nat} {v w : Nat → Rat} {x y : D}
theorem F_promise_ok (ok : t.Ok) (hs : Sz p s) (hp : p ≤ 5000) (hw : ∀ i, i < t.h → Sz q (w i)) (hq : q ≤ 5000) :
    ∃ d, F_promise [t.dat, frD s, vT t.h w] = some d ∧ (((∃ i, i < t.h ∧ w i < 0) ∧ d = .none) ∨ ((∀ i, i < t.h → 0 ≤ w i) ∧ t.Prom s w d)) := by
  have hh := ok.h8
  obtain ⟨d, e, hd⟩ := F_promise_of_ok ok hs hp (its_vT (n := t.h) (v := w)) rfl hw hq
  refine run_ret rfl ?_
  unfold g_promise
  simp [F_need_both_eq ok, F_need_plan_eq (n := t.h) (v := w) (by omega), lst_its (show t.h ≤ 1000000 by omega)]
  rw [lcGo_vec (φ := fun i => .bool (decide (w i < 0)))]
  · simp [d_any]
    by_cases h : ∃ i, i < t.h ∧ w i < 0
    · have h2 : (vecF t.h fun i => decide (w i < 0)).any id = true := any_vec.mpr (by simpa using h)
      rw [h2]
      simp
      exact wp_some (.inl ⟨h, rfl⟩)
    · have h1 : ∀ i, i < t.h → 0 ≤ w i := fun i hi => Rat.not_lt.mp fun z => h ⟨i, hi, z⟩
      rw [any_false fun i hi => decide_eq_false (Rat.not_lt.mpr (h1 i hi))]
      simp [e]
      exact wp_some (.inr ⟨h1, hd⟩)
  · intro i hi
    refine ⟨⟨([], 0, 0, 0), [.s t.dat, .s (frD s), .s (vT t.h w), .s (frD (w i))]⟩, ?_, rfl, ?_⟩
    · simp [Ev.wipe, wipeS]
    · simp
/-- weights that bar -/
def Tk.Bars (t : Tk) (s : Rat) (w : Nat → Rat) : Prop := (∀ i, i < t.h → 0 ≤ w i) ∧ (∀ j, j < t.n → t.Aw w j = 0) ∧ 0 < t.lim s w
theorem F_bars_ok (ok : t.Ok) (hs : Sz p s) (hp : p ≤ 1000000) (hw : ∀ i, i < t.h → Sz q (w i)) (hq : q ≤ 1000000) : ∃ d, F_bars [t.dat, frD s, vT t.h w] = some d ∧ Tells (t.Bars s w) d := by
  have hn := ok.n4
  have hh := ok.h8
  have hsu := F_sum_of_rows_eq ok (its_vT (n := t.h) (v := w)) hw hq
  have hr := F_rights_at_eq ok hs hp
  refine run_ret rfl ?_
  unfold g_bars
  simp [F_need_both_eq ok, F_need_plan_eq (n := t.h) (v := w) (by omega), lst_its (show t.h ≤ 1000000 by omega)]
  rw [lcGo_vec (φ := fun i => .bool (decide (w i < 0)))]
  · simp [d_any]
    by_cases h : ∃ i, i < t.h ∧ w i < 0
    · have h2 : (vecF t.h fun i => decide (w i < 0)).any id = true := any_vec.mpr (by simpa using h)
      rw [h2]
      simp
      exact wp_some (tells_f fun z => by
        obtain ⟨i, hi, hn⟩ := h
        exact absurd hn (Rat.not_lt.mpr (z.1 i hi)))
    · have h1 : ∀ i, i < t.h → 0 ≤ w i := fun i hi => Rat.not_lt.mp fun z => h ⟨i, hi, z⟩
      rw [any_false fun i hi => decide_eq_false (Rat.not_lt.mpr (h1 i hi))]
      simp [hsu, lst_its (show t.n ≤ 1000000 by omega)]
      rw [lcGo_vec (φ := fun j => .bool (!decide ((t.Aw w j).num = 0)))]
      · simp only [bnd_some]
        rw [d_any]
        by_cases h3 : ∃ j, j < t.n ∧ t.Aw w j ≠ 0
        · have h4 : (vecF t.n fun j => !decide ((t.Aw w j).num = 0)).any id = true := any_vec.mpr (by
            obtain ⟨j, hj, hz⟩ := h3
            exact ⟨j, hj, by simpa using num_ne hz⟩)
          rw [h4]
          simp
          exact wp_some (tells_f fun z => by
            obtain ⟨j, hj, hz⟩ := h3
            exact hz (z.2.1 j hj))
        · have h5 : ∀ j, j < t.n → t.Aw w j = 0 := fun j hj => Classical.byContradiction fun z => h3 ⟨j, hj, z⟩
          rw [any_false fun j hj => by rw [h5 j hj]; rfl]
          simp [hr, zp2_its (its_vL (v := t.right s)) (its_vT (n := t.h) (v := w))]
          have zr : ∀ j, j < t.h → Sz (q + p + 21) (t.right s j * w j) := fun j hj => ((Tk.right_sz ok hs hj).mul (hw j hj)).mono (by omega)
          have zrs : ∀ i, i ≤ t.h → Sz (8 * (q + p + 22) + 1) (sumN i fun j => t.right s j * w j) := fun i hi => (sz_sum fun j hj => zr j (by omega)).mono (by
            have : i * (q + p + 21 + 1) ≤ 8 * (q + p + 21 + 1) := Nat.mul_le_mul_right _ (by omega)
            omega)
          refine wp_thn (fun ρ => ∃ l, ρ = ⟨([], 0, 0, 0), .s t.dat :: .s (frD s) :: .s (vT t.h w) :: .s (frD (t.lim s w)) :: l⟩) ?_ ?_
          · refine wp_for (fun i ρ => ∃ s4 s5, ρ = ⟨([], 0, 0, 0), [.s t.dat, .s (frD s), .s (vT t.h w), .s (frD (sumN i fun j => t.right s j * w j)), s4, s5, .no]⟩) ⟨_, _, rfl⟩ ?_ ?_
            · rintro i ρ hi ⟨s4, s5, rfl⟩
              have f1 := F_times_eq (Tk.right_sz ok hs hi) (hw i hi) (by omega)
              have f2 := F_plus_eq (zrs i (by omega)) (zr i hi) (by omega)
              simp [f1, f2]
              exact wp_some ⟨_, _, rfl⟩
            · rintro ρ ⟨s4, s5, rfl⟩
              exact ⟨_, rfl⟩
          · rintro ρ ⟨l, rfl⟩
            simp
            refine wp_some ⟨_, rfl, ?_⟩
            rw [decide_eq_true_eq]
            exact ⟨fun z => ⟨h1, h5, z⟩, fun z => z.2.2⟩
      · intro j hj
        refine ⟨⟨([], 0, 0, 0), [.s t.dat, .s (frD s), .s (vT t.h w), .no, .no, .no, .s (frD (t.Aw w j))]⟩, ?_, rfl, ?_⟩
        · simp [Ev.wipe, wipeS]
        · simp
  · intro i hi
    refine ⟨⟨([], 0, 0, 0), [.s t.dat, .s (frD s), .s (vT t.h w), .no, .no, .no, .s (frD (w i))]⟩, ?_, rfl, ?_⟩
    · simp [Ev.wipe, wipeS]
    · simp
/-! ### the law's own -/
theorem F_law_slope_eq (ok : t.Ok) (hs : Sz p s) (hp : p ≤ 1000000) (hx : Its x t.n fun i => frD (v i)) (hv : ∀ i, i < t.n → Sz q (v i)) (hq : q ≤ 1000000) : F_law_slope [t.dat, frD s, x] = some (vL t.n (t.slope s v)) := by
  have hn := ok.n4
  refine run_of (w := ([], 0, 0, 0)) rfl ?_
  unfold g_law_slope
  simp [len_its hx, d_range (show t.n ≤ 1000000 by omega)]
  refine thn_for (fun i ρ => ∃ s4 s5, ρ = ⟨([], 0, 0, 0), [.s t.dat, .s (frD s), .s x, .o (vecF i fun j => frD (t.slope s v j)), s4, s5]⟩) ⟨_, _, rfl⟩ (fun i ρ hi hJ => ?_) (fun ρ hJ => ?_)
  · obtain ⟨s4, s5, rfl⟩ := hJ
    have e1 := F_law_times_eq (sz10 (ok.d i hi)) hs (by omega)
    have e2 := F_law_plus_eq (sz10 (ok.c i hi)) ((sz10 (ok.d i hi)).mul hs) (by omega)
    rw [frD_int] at e1 e2
    have e3 := F_law_inner8 (its_iT (v := t.M i)) hx (by omega) (fun j hj => ok.M i j hi hj) hv (by omega)
    rw [show (sumN t.n fun j => (t.M i j : Rat) * v j) = t.Mx v i from rfl] at e3
    have e4 := F_law_plus_eq (Tk.Mx_sz ok hv hi) (Tk.cost_sz ok hs hi) (by omega)
    rw [show t.Mx v i + t.cost s i = t.slope s v i from rfl] at e4
    have e5 : F_law_plus [.tuple [.int (t.c i), .int 1], frD ((t.d i : Rat) * s)] = some (frD (t.cost s i)) := e2
    have e6 : apO (.o (vecF i fun j => frD (t.slope s v j))) (frD (t.slope s v i)) = some (.o (vecF (i + 1) fun j => frD (t.slope s v j))) := by
      rw [ap_o (by simp; omega), vecF_succ]
    refine ⟨_, ?_, ⟨.s (.int i), .s (frD (t.cost s i)), rfl⟩⟩
    simp [ix_its (its_iT (v := t.d)) hi, ix_its (its_iT (v := t.c)) hi, ix_its its_sq hi, e1, e5, e3, e4, e6]
  · obtain ⟨s4, s5, rfl⟩ := hJ
    simp
    rfl
theorem F_law_gaps_eq (ok : t.Ok) (hs : Sz p s) (hp : p ≤ 1000000) (hx : Its x t.n fun i => frD (v i)) (hv : ∀ i, i < t.n → Sz q (v i)) (hq : q ≤ 1000000) : F_law_gaps [t.dat, frD s, x] = some (vL t.h (t.gap s v)) := by
  have hn := ok.n4
  have hh := ok.h8
  refine run_of (w := ([], 0, 0, 0)) rfl ?_
  unfold g_law_gaps
  simp
  refine thn_for (fun i ρ => ∃ s4 s5 s6 s7, ρ = ⟨([], 0, 0, 0), [.s t.dat, .s (frD s), .s x, .o (vecF i fun j => frD (t.gap s v j)), s4, s5, s6, s7]⟩) ⟨_, _, _, _, rfl⟩ (fun i ρ hi hJ => ?_) (fun ρ hJ => ?_)
  · obtain ⟨s4, s5, s6, s7, rfl⟩ := hJ
    have e1 := F_law_times_eq (sz10 (ok.e i hi)) hs (by omega)
    have e2 := F_law_plus_eq (sz10 (ok.b i hi)) ((sz10 (ok.e i hi)).mul hs) (by omega)
    rw [frD_int] at e1 e2
    have e3 := F_law_inner8 (its_iT (v := t.A i)) hx (by omega) (fun j hj => ok.A i j hi hj) hv (by omega)
    rw [show (sumN t.n fun j => (t.A i j : Rat) * v j) = t.Ax v i from rfl] at e3
    have e4 := F_law_less_eq (Tk.Ax_sz ok hv hi) (Tk.right_sz ok hs hi) (by omega)
    rw [show t.Ax v i - t.right s i = t.gap s v i from rfl] at e4
    have e5 : F_law_plus [.tuple [.int (t.b i), .int 1], frD ((t.e i : Rat) * s)] = some (frD (t.right s i)) := e2
    have e6 : apO (.o (vecF i fun j => frD (t.gap s v j))) (frD (t.gap s v i)) = some (.o (vecF (i + 1) fun j => frD (t.gap s v j))) := by
      rw [ap_o (by simp; omega), vecF_succ]
    refine ⟨_, ?_, ⟨.s (iT t.n (t.A i)), .s (.int (t.b i)), .s (.int (t.e i)), .s (frD (t.right s i)), rfl⟩⟩
    simp [Tk.rowD, e1, e5, e3, e4, e6]
  · obtain ⟨s4, s5, s6, s7, rfl⟩ := hJ
    simp
    rfl
theorem half_num : (1 / 2 : Rat).num = 1 := by decide +kernel
theorem half_den : (1 / 2 : Rat).den = 2 := by decide +kernel
theorem szhalf : Sz 2 (1 / 2) := ⟨by rw [half_num]; decide, by rw [half_den]; decide⟩
theorem frD_half : frD (1 / 2) = .tuple [.int 1, .int 2] := by
  unfold frD
  rw [half_num, half_den]
  rfl
theorem F_law_worth_eq (ok : t.Ok) (hs : Sz p s) (hp : p ≤ 1000000) (hx : Its x t.n fun i => frD (v i)) (hv : ∀ i, i < t.n → Sz q (v i)) (hq : q ≤ 1000000) : F_law_worth [t.dat, frD s, x] = some (frD (t.worth s v)) := by
  have hn := ok.n4
  refine run_of (w := ([], 0, 0, 0)) rfl ?_
  unfold g_law_worth
  simp [len_its hx, d_range (show t.n ≤ 1000000 by omega)]
  refine thn_for (fun i ρ => ∃ s4 s5 s6, ρ = ⟨([], 0, 0, 0), [.s t.dat, .s (frD s), .s x, .s (frD (sumN i fun j => v j * (t.Mx v j / 2 + t.cost s j))), s4, s5, s6]⟩) ⟨_, _, _, rfl⟩ (fun i ρ hi hJ => ?_) (fun ρ hJ => ?_)
  · obtain ⟨s4, s5, s6, rfl⟩ := hJ
    have e1 := F_law_times_eq (sz10 (ok.d i hi)) hs (by omega)
    have e2 := F_law_plus_eq (sz10 (ok.c i hi)) ((sz10 (ok.d i hi)).mul hs) (by omega)
    rw [frD_int] at e1 e2
    have e5 : F_law_plus [.tuple [.int (t.c i), .int 1], frD ((t.d i : Rat) * s)] = some (frD (t.cost s i)) := e2
    have e3 := F_law_inner8 (its_iT (v := t.M i)) hx (by omega) (fun j hj => ok.M i j hi hj) hv (by omega)
    rw [show (sumN t.n fun j => (t.M i j : Rat) * v j) = t.Mx v i from rfl] at e3
    have eh : ∀ a : Rat, 1 / 2 * a = a / 2 := fun a => by grind
    have e4 := F_law_times_eq szhalf (Tk.Mx_sz ok hv hi) (by omega)
    rw [eh, frD_half] at e4
    have z2 := (Tk.Mx_sz ok hv hi).div sz2 two_ne
    have z3 : ∀ j, j < t.n → Sz (9 * q + p + 125) (v j * (t.Mx v j / 2 + t.cost s j)) := fun j hj => ((hv j hj).mul (((Tk.Mx_sz ok hv hj).div sz2 two_ne).add (Tk.cost_sz ok hs hj))).mono (by omega)
    have z4 := sz_sum (n := i) fun j hj => z3 j (by omega)
    have hb : i * (9 * q + p + 125 + 1) ≤ 4 * (9 * q + p + 125 + 1) := Nat.mul_le_mul_right _ (by omega)
    have e6 := F_law_plus_eq z2 (Tk.cost_sz ok hs hi) (by omega)
    have e7 := F_law_times_eq (hv i hi) (z2.add (Tk.cost_sz ok hs hi)) (by omega)
    have e8 := F_law_plus_eq z4 (z3 i hi) (by omega)
    refine ⟨_, ?_, ⟨.s (.int i), .s (frD (t.cost s i)), .s (frD (t.Mx v i / 2)), rfl⟩⟩
    simp [ix_its (its_iT (v := t.d)) hi, ix_its (its_iT (v := t.c)) hi, ix_its its_sq hi, ix_its hx hi, e1, e5, e3, e4, e6, e7, e8]
    rfl
  · obtain ⟨s4, s5, s6, rfl⟩ := hJ
    simp
    rfl
end
end PX

namespace PX
open PySem L2 DL PG
theorem eqv_frD_dec (a b : Rat) : PyData.eqv (frD a) (frD b) = decide (a = b) := by
  by_cases h : a = b
  · rw [decide_eq_true h, eqv_frD.mpr h]
  · rw [decide_eq_false h]
    cases e : PyData.eqv (frD a) (frD b) with
    | false => rfl
    | true => exact absurd (eqv_frD.mp e) h
theorem ne_frD (a b : Rat) : dNe (frD a) (frD b) = some (.bool (!decide (a = b))) := by
  rw [d_neSh (sh_frD a) (sh_frD b) (by decide) (by decide), eqv_frD_dec]
section
variable {t : Tk} {s : Rat} {p q : Nat} {v w : Nat → Rat} {x y : D}
/-- the column of a list of rows -/
theorem F_law_col (ok : t.Ok) {j : Nat} (hj : j < t.n) (hy : Its y t.h fun i => frD (w i)) (hw : ∀ i, i < t.h → Sz q (w i)) (hq : q ≤ 1000000) : F_law_inner [.list (vecF t.h fun i => .int (t.A i j)), y] = some (frD (t.Aw w j)) := by
  have hh := ok.h8
  exact F_law_inner8 (r := fun i => t.A i j) rfl hy (by omega) (fun i hi => ok.A i j hi hj) hw (by omega)
theorem F_law_shows_ok (ok : t.Ok) (hs : Sz p s) (hp : p ≤ 1000000) (hx : Its x t.n fun i => frD (v i)) (hv : ∀ i, i < t.n → Sz q (v i)) (hq : q ≤ 1000000) (hy : Its y t.h fun i => frD (w i)) (hw : ∀ i, i < t.h → Sz q (w i)) :
    ∃ d, F_law_shows [t.dat, frD s, x, y] = some d ∧ Tells (t.Shows s v w) d := by
  have hn := ok.n4
  have hh := ok.h8
  have hg := F_law_gaps_eq ok hs hp hx hv hq
  have hsl := F_law_slope_eq ok hs hp hx hv hq
  refine run_ret rfl ?_
  unfold g_law_shows
  simp [hg, d_range (show t.h ≤ 1000000 by omega)]
  refine wp_thn (fun ρ => t.Fit s v w t.h ∧ ∃ s5, ρ = ⟨([], 0, 0, 0), [.s t.dat, .s (frD s), .s x, .s y, .s (vL t.h (t.gap s v)), s5, .no, .no]⟩) ?_ ?_
  · refine wp_for (fun i ρ => t.Fit s v w i ∧ ∃ s5, ρ = ⟨([], 0, 0, 0), [.s t.dat, .s (frD s), .s x, .s y, .s (vL t.h (t.gap s v)), s5, .no, .no]⟩) ⟨fun k hk => absurd hk (Nat.not_lt_zero _), _, rfl⟩ ?_ ?_
    · rintro i ρ hi ⟨h1, s5, rfl⟩
      have hz : (w i).num = 0 ↔ w i = 0 := Rat.num_eq_zero
      by_cases hc : t.FitAt s v w i
      · have c1 : ¬ t.gap s v i < 0 := Rat.not_lt.mpr hc.1
        have c2 : ¬ w i < 0 := Rat.not_lt.mpr hc.2.1
        have hn := Tk.Fit.succ h1 hc
        by_cases c3 : 0 < t.gap s v i
        · have c4 : w i = 0 := by
            have h4 : ¬ 0 < w i := fun z => hc.2.2 ⟨z, c3⟩
            have := hc.2.1
            grind
          simp [vL_ix hi, ix_its hy hi, c1, c2, c3, c4]
          exact wp_some ⟨hn, _, rfl⟩
        · simp [vL_ix hi, ix_its hy hi, c1, c2, c3]
          exact wp_some ⟨hn, _, rfl⟩
      · have no : ¬ t.Shows s v w := fun z => hc (z.1 i hi)
        by_cases c1 : t.gap s v i < 0
        · simp [vL_ix hi, ix_its hy hi, c1]
          exact wp_some (tells_f no)
        · by_cases c2 : w i < 0
          · simp [vL_ix hi, ix_its hy hi, c1, c2]
            exact wp_some (tells_f no)
          · have c3 : 0 < w i ∧ 0 < t.gap s v i := Classical.byContradiction fun z => hc ⟨Rat.not_lt.mp c1, Rat.not_lt.mp c2, z⟩
            have c4 : ¬ w i = 0 := fun z => by rw [z] at c3; exact absurd c3.1 (by decide)
            simp [vL_ix hi, ix_its hy hi, c1, c2, c3.2, c4]
            exact wp_some (tells_f no)
    · rintro ρ h
      exact h
  · rintro ρ ⟨h1, s5, rfl⟩
    simp [hsl, len_its hx, d_range (show t.n ≤ 1000000 by omega)]
    refine wp_thn (fun ρ => (∀ j, j < t.n → t.slope s v j = t.Aw w j) ∧ ∃ l, ρ = ⟨([], 0, 0, 0), l⟩) ?_ ?_
    · refine wp_for (fun i ρ => (∀ j, j < i → t.slope s v j = t.Aw w j) ∧ ∃ s5, ρ = ⟨([], 0, 0, 0), [.s t.dat, .s (frD s), .s x, .s y, .s (vL t.h (t.gap s v)), s5, .s (vL t.n (t.slope s v)), .no]⟩) ⟨fun k hk => absurd hk (Nat.not_lt_zero _), _, rfl⟩ ?_ ?_
      · rintro j ρ hj ⟨h2, s5, rfl⟩
        simp [vL_ix hj, lst_its (show t.h ≤ 1000000 by omega)]
        rw [lcGo_vec (φ := fun i => .int (t.A i j))]
        · simp [F_law_col ok hj hy hw hq, ne_frD]
          by_cases e : t.slope s v j = t.Aw w j
          · simp [e]
            exact wp_some ⟨fun k hk => by
              by_cases e2 : k = j
              · subst e2; exact e
              · exact h2 k (by omega), _, rfl⟩
          · simp [e]
            exact wp_some (tells_f fun z => e (z.2 j hj))
        · intro i hi
          refine ⟨⟨([], 0, 0, 0), [.s t.dat, .s (frD s), .s x, .s y, .s (vL t.h (t.gap s v)), .s (.int j), .s (vL t.n (t.slope s v)), .s (t.rowD i)]⟩, ?_, rfl, ?_⟩
          · simp [Ev.wipe, wipeS]
          · simp [ix_its (its_iT (v := t.A i)) hj]
      · rintro ρ ⟨h2, s5, rfl⟩
        exact ⟨h2, _, rfl⟩
    · rintro ρ ⟨h2, l, rfl⟩
      simp
      exact wp_some (tells_t ⟨h1, h2⟩)
theorem F_law_bars_ok (ok : t.Ok) (hs : Sz p s) (hp : p ≤ 1000000) (hy : Its y t.h fun i => frD (w i)) (hw : ∀ i, i < t.h → Sz q (w i)) (hq : q ≤ 1000000) : ∃ d, F_law_bars [t.dat, frD s, y] = some d ∧ Tells (t.Bars s w) d := by
  have hn := ok.n4
  have hh := ok.h8
  refine run_ret rfl ?_
  unfold g_law_bars
  simp [show dItems y = _ from hy, lst_its (show t.h ≤ 1000000 by omega)]
  rw [lcGo_filter (φ := fun i => frD (w i)) (t := fun i => decide (w i < 0))]
  · simp only [bnd_some, e_ret, e_wr]
    rw [d_neNil (k := 1) (fun d hd => by obtain ⟨i, _, rfl⟩ := List.mem_map.mp hd; exact sh_frD _) (by decide)]
    by_cases h : ∃ i, i < t.h ∧ w i < 0
    · have h2 : (((List.range t.h).filter fun i => decide (w i < 0)).map fun i => frD (w i)).isEmpty = false := by
        obtain ⟨i, hi, hn⟩ := h
        cases e : ((List.range t.h).filter fun i => decide (w i < 0)) with
        | nil =>
          have := List.filter_eq_nil_iff.mp e i (List.mem_range.mpr hi)
          rw [decide_eq_true hn] at this
          exact absurd rfl this
        | cons a l => rfl
      rw [h2]
      simp
      exact wp_some (tells_f fun z => by
        obtain ⟨i, hi, hn⟩ := h
        exact absurd hn (Rat.not_lt.mpr (z.1 i hi)))
    · have h1 : ∀ i, i < t.h → 0 ≤ w i := fun i hi => Rat.not_lt.mp fun z => h ⟨i, hi, z⟩
      have h2 : (List.range t.h).filter (fun i => decide (w i < 0)) = [] := List.filter_eq_nil_iff.mpr fun i hi => by
        have := h1 i (List.mem_range.mp hi)
        simp [Rat.not_lt.mpr this]
      rw [h2]
      simp [d_range (show t.n ≤ 1000000 by omega)]
      refine wp_thn (fun ρ => (∀ j, j < t.n → t.Aw w j = 0) ∧ ∃ s3, ρ = ⟨([], 0, 0, 0), [.s t.dat, .s (frD s), .s y, s3, .no, .no, .no, .no]⟩) ?_ ?_
      · refine wp_for (fun i ρ => (∀ j, j < i → t.Aw w j = 0) ∧ ∃ s3, ρ = ⟨([], 0, 0, 0), [.s t.dat, .s (frD s), .s y, s3, .no, .no, .no, .no]⟩) ⟨fun k hk => absurd hk (Nat.not_lt_zero _), _, rfl⟩ ?_ ?_
        · rintro j ρ hj ⟨h2, s3, rfl⟩
          simp [lst_its (show t.h ≤ 1000000 by omega)]
          rw [lcGo_vec (φ := fun i => .int (t.A i j))]
          · simp [F_law_col ok hj hy hw hq]
            by_cases e : t.Aw w j = 0
            · simp [e]
              exact wp_some ⟨fun k hk => by
                by_cases e2 : k = j
                · subst e2; exact e
                · exact h2 k (by omega), _, rfl⟩
            · simp [e]
              exact wp_some (tells_f fun z => e (z.2.1 j hj))
          · intro i hi
            refine ⟨⟨([], 0, 0, 0), [.s t.dat, .s (frD s), .s y, .s (.int j), .no, .no, .no, .s (t.rowD i)]⟩, ?_, rfl, ?_⟩
            · simp [Ev.wipe, wipeS]
            · simp [ix_its (its_iT (v := t.A i)) hj]
        · rintro ρ h
          exact h
      · rintro ρ ⟨h3, s3, rfl⟩
        simp [len_its hy, d_range (show t.h ≤ 1000000 by omega)]
        have zr : ∀ j, j < t.h → Sz (q + p + 21) (t.right s j * w j) := fun j hj => ((Tk.right_sz ok hs hj).mul (hw j hj)).mono (by omega)
        have zrs : ∀ i, i ≤ t.h → Sz (8 * (q + p + 22) + 1) (sumN i fun j => t.right s j * w j) := fun i hi => (sz_sum fun j hj => zr j (by omega)).mono (by
          have : i * (q + p + 21 + 1) ≤ 8 * (q + p + 21 + 1) := Nat.mul_le_mul_right _ (by omega)
          omega)
        refine wp_thn (fun ρ => ∃ s3 l, ρ = ⟨([], 0, 0, 0), .s t.dat :: .s (frD s) :: .s y :: s3 :: .s (frD (t.lim s w)) :: l⟩) ?_ ?_
        · refine wp_for (fun i ρ => ∃ s3 s5, ρ = ⟨([], 0, 0, 0), [.s t.dat, .s (frD s), .s y, s3, .s (frD (sumN i fun j => t.right s j * w j)), s5, .no, .no]⟩) ⟨_, _, rfl⟩ ?_ ?_
          · rintro i ρ hi ⟨s3, s5, rfl⟩
            have e1 := F_law_times_eq (sz10 (ok.e i hi)) hs (by omega)
            have e2 := F_law_plus_eq (sz10 (ok.b i hi)) ((sz10 (ok.e i hi)).mul hs) (by omega)
            rw [frD_int] at e1 e2
            have e5 : F_law_plus [.tuple [.int (t.b i), .int 1], frD ((t.e i : Rat) * s)] = some (frD (t.right s i)) := e2
            have f1 := F_law_times_eq (Tk.right_sz ok hs hi) (hw i hi) (by omega)
            have f2 := F_law_plus_eq (zrs i (by omega)) (zr i hi) (by omega)
            simp [ix_its its_rows hi, ix_its hy hi, e1, e5, f1, f2]
            exact wp_some ⟨_, _, rfl⟩
          · rintro ρ ⟨s3, s5, rfl⟩
            exact ⟨_, _, rfl⟩
        · rintro ρ ⟨s3, l, rfl⟩
          simp
          refine wp_some ⟨_, rfl, ?_⟩
          rw [decide_eq_true_eq]
          exact ⟨fun z => ⟨h1, h3, z⟩, fun z => z.2.2⟩
  · intro i hi
    refine ⟨⟨([], 0, 0, 0), [.s t.dat, .s (frD s), .s y, .no, .no, .no, .s (frD (w i)), .no]⟩, ?_, ?_, ?_⟩
    · simp [Ev.wipe, wipeS]
    · simp
    · intro _
      simp
/-! ### alike, is -/
theorem F_law_is_eq {a b : Bool} : F_law_is [.bool a, .bool b] = some (.bool (a == b)) := by
  refine run_of (w := ([], 0, 0, 0)) rfl ?_
  unfold g_law_is
  simp
theorem tells_same {P : Prop} {d e : D} (h1 : Tells P d) (h2 : Tells P e) : F_law_is [d, e] = some (.bool true) := by
  obtain ⟨a, rfl, ha⟩ := h1
  obtain ⟨b, rfl, hb⟩ := h2
  rw [F_law_is_eq]
  have : a = b := by
    cases a <;> cases b <;> simp_all
  subst this
  cases a <;> rfl
theorem alike_int {k : Nat} {i : Int} : F_law_alike_ (k + 1) [.int i, .int i] = some (.bool true) := by
  refine run_of (w := ([], 0, 0, 0)) rfl ?_
  unfold g_law_alike
  simp [dIsN]
theorem alike_frD {q : Rat} : F_law_alike [frD q, frD q] = some (.bool true) := by
  show F_law_alike_ 8 [frD q, frD q] = _
  refine run_of (w := ([], 0, 0, 0)) rfl ?_
  unfold g_law_alike frD
  simp [d_range (show 2 ≤ 1000000 by decide)]
  have e := d_range (n := 2) (by decide)
  simp at e
  rw [e]
  simp
  rw [lcGo_filter (φ := fun i => .int (i : Nat)) (t := fun _ => false)]
  · simp
    rw [d_eqNil (k := 0) (fun d hd => by cases hd) (by decide)]
    rfl
  · intro i hi
    refine ⟨⟨([], 0, 0, 0), [.s (frD q), .s (frD q), .s (.int (i : Nat))]⟩, ?_, ?_, ?_⟩
    · simp [Ev.wipe, wipeS, frD]
    · have h : i = 0 ∨ i = 1 := by omega
      rcases h with rfl | rfl
      · simp [alike_int]
      · simp [alike_int]
    · intro z
      cases z
end
end PX

namespace PX
open PySem L2 DL PG
theorem Sz.inv {n : Nat} {q : Rat} (h : Sz n q) (h0 : q ≠ 0) : Sz n q⁻¹ := by
  rw [Rat.inv_def]
  exact Sz.divInt h.nd h.1 (num_ne h0)
theorem F_law_fr_inv {q : Rat} (h0 : q ≠ 0) : F_law_fr [.int (q.den : Nat), .int q.num] = some (frD q⁻¹) := by
  rw [F_law_fr_eq (num_ne h0), Rat.inv_def]
theorem swap2_eq {T : Tab} {a p : Nat} {r : Nat → Rat} : updT (updT T p (T a)) a r = updT (swapR T a p) a r := by
  funext i
  unfold updT swapR
  by_cases h1 : i = a
  · rw [if_pos h1, if_pos h1]
  · rw [if_neg h1, if_neg h1]
    by_cases h2 : i = p
    · rw [if_pos h2, if_pos h2]
    · rw [if_neg h2, if_neg h2, if_neg h1]
theorem swapR_at {T : Tab} {a p : Nat} : swapR T a p a = T p := by
  unfold swapR
  by_cases h : a = p
  · subst h; simp
  · simp [h]
/-- what the law's own solver promises -/
def LSolvedP (n b : Nat) (R : Tab) (S : Nat → Rat) (d : D) : Prop :=
  (d = .none ∧ ∃ z : Nat → Rat, (∃ j, j < n ∧ z j ≠ 0) ∧ ∀ i, i < n → sumN n (fun j => R i j * z j) = 0) ∨
  ∃ X : Nat → Rat, d = vL n X ∧ (∀ x : Nat → Rat, (∀ i, i < n → sumN n (fun j => R i j * x j) = S i) ↔ ∀ i, i < n → x i = X i) ∧ ∀ i, i < n → Sz (bd b n) (X i)
theorem F_law_solved_ok {n b : Nat} {lot rights : D} {r : Nat → D} {R : Nat → Nat → Int} {S : Nat → Int} (hr : Its lot n r) (hri : ∀ i, i < n → Its (r i) n fun j => .int (R i j)) (hs : Its rights n fun i => .int (S i))
    (hn : n ≤ 1000) (h1 : 1 ≤ b) (hR : ∀ i j, i < n → j < n → (R i j).natAbs < 2 ^ b) (hS : ∀ i, i < n → (S i).natAbs < 2 ^ b) (hb : bd b n < 134000000) : ∃ d, F_law_solved [lot, rights] = some d ∧ LSolvedP n b (fun i j => (R i j : Rat)) (fun i => (S i : Rat)) d := by
  refine run_ret rfl ?_
  unfold g_law_solved
  simp [len_its hr, d_range (show n ≤ 1000000 by omega), lst_its (show n ≤ 1000000 by omega)]
  rw [lcGo_vec (φ := fun i => vL (n + 1) fun j => if j < n then (R i j : Rat) else (S i : Rat))]
  · simp [d_range (show n ≤ 1000000 by omega)]
    have hw : n ≤ n + 1 := Nat.le_add_right ..
    have hwl : n + 1 ≤ 1000000 := by omega
    refine wp_thn (fun ρ => ∃ T s4 s5 s6 s7 s8, GJ n (n + 1) b (fun i j => if j < n then (R i j : Rat) else (S i : Rat)) n T ∧ ρ = ⟨([], 0, 0, 0), [.s lot, .s rights, .s (.int n), .o (tabD n (n + 1) T), s4, s5, s6, s7, s8, .no, .no, .no]⟩) ?_ ?_
    · refine wp_for (fun a ρ => ∃ T s4 s5 s6 s7 s8, GJ n (n + 1) b (fun i j => if j < n then (R i j : Rat) else (S i : Rat)) a T ∧ ρ = ⟨([], 0, 0, 0), [.s lot, .s rights, .s (.int n), .o (tabD n (n + 1) T), s4, s5, s6, s7, s8, .no, .no, .no]⟩) ?_ ?_ ?_
      · refine ⟨_, _, _, _, _, _, ⟨fun i j _ h => absurd h (Nat.not_lt_zero _), fun z => Iff.rfl, fun i j hi hj => ?_⟩, rfl⟩
        by_cases hjn : j < n
        · rw [if_pos hjn]; exact Sz.int (hR i j hi hjn) h1
        · rw [if_neg hjn]; exact Sz.int (hS i hi) h1
      · rintro a ρ ha ⟨T, s4, s5, s6, s7, s8, G, rfl⟩
        have hba : bd b (a + 1) ≤ bd b n := bd_le (by omega)
        have hba' : bd b (a + 1) = 4 * bd b a + 1 := rfl
        simp [d_range2 (show n ≤ 1000000 by omega) (show a ≤ 1000000 by omega), lst_its (show n - a ≤ 1000000 by omega)]
        rw [lcGo_filter (φ := fun i => .int ((a + i : Nat) : Int)) (t := fun i => !decide ((T (a + i) a).num = 0))]
        · rw [show (List.range (n - a)).filter (fun i => !decide ((T (a + i) a).num = 0)) = spots T n a from rfl]
          simp [d_eqNil (k := 0) (l := (spots T n a).map fun (i : Nat) => (PyData.int ((a : Int) + (i : Int)) : D)) (fun d hd => by obtain ⟨i, _, rfl⟩ := List.mem_map.mp hd; exact sh_int _) (by decide)]
          cases hsp : spots T n a with
          | nil =>
            simp
            refine wp_some ?_
            obtain ⟨z, z1, z2, z3⟩ := no_pivot ha hw G.u (spots_nil hsp)
            exact .inl ⟨rfl, z, ⟨a, ha, z1⟩, ker_null (m := 1) (S := fun _ i => (S i : Rat)) z2 ((G.k z).mp z3)⟩
          | cons k l =>
            obtain ⟨hp, h0⟩ := spots_cons hsp
            simp
            have haw : a < n + 1 := by omega
            obtain ⟨p, ep⟩ : ∃ p : Nat, p = a + k := ⟨_, rfl⟩
            have ep' : (a : Int) + (k : Int) = (p : Int) := by rw [ep]; rfl
            rw [← ep] at hp h0
            have hap : a ≤ p := by omega
            simp only [List.map_cons, ep', Int.natCast_add]
            generalize List.map (fun (i : Nat) => (PyData.int ((a : Int) + (i : Int)) : D)) l = tl
            simp [tab_ix hp, tab_ix ha, tab_st hp]
            have G' := G.step ha hw hap hp h0
            have hs1 := swap_sz ha hp G.s
            have hTp : ∀ j, j < n + 1 → Sz (bd b a) (T p j) := fun j hj => G.s p j hp hj
            have h0' : swapR T a p a a ≠ 0 := by rw [swapR_at]; exact h0
            have e3 : stepR T a p = elimR (normR (swapR T a p) a) a := rfl
            have en : updT (updT T p (T a)) a (fun j => T p j * (T p a)⁻¹) = normR (swapR T a p) a := by
              rw [swap2_eq, ← norm_eq, swapR_at]
              rfl
            rw [e3] at G'
            simp [lst_its hwl]
            rw [lcGo_vec (φ := fun j => frD (T p j * (T p a)⁻¹))]
            · simp only [bnd_some]
              rw [show (PyData.list (vecF (n + 1) fun j => frD (T p j * (T p a)⁻¹)) : D) = vL (n + 1) (fun j => T p j * (T p a)⁻¹) from rfl]
              simp [tab_st ha, en, d_range (show n ≤ 1000000 by omega)]
              have hr2 : ∀ i, i ≠ a → normR (swapR T a p) a i = swapR T a p i := fun i hi => by
                funext j
                unfold normR
                rw [if_neg hi]
              have ha2 : ∀ j, j < n + 1 → Sz (bd b a + bd b a) (normR (swapR T a p) a a j) := fun j hj => norm_sz ha haw h0' hs1 a j ha hj
              have hla : (fun j => T p j * (T p a)⁻¹) = normR (swapR T a p) a a := by
                rw [← en]
                unfold updT
                rw [if_pos rfl]
              rw [hla]
              have hend : ∀ s6 s7 s8, ∃ T', GJ n (n + 1) b (fun i j => if j < n then (R i j : Rat) else (S i : Rat)) (a + 1) T' ∧ ∃ x x_1 x_2 x_3 x_4, (⟨([], 0, 0, 0), [.s lot, .s rights, .s (.int n), .o (tabD n (n + 1) (elimK (normR (swapR T a p) a) a n)), .s (.int a), .s (.list (.int p :: tl)), s6, s7, s8, .no, .no, .no]⟩ : Ev) = ⟨([], 0, 0, 0), [.s lot, .s rights, .s (.int n), .o (tabD n (n + 1) T'), x, x_1, x_2, x_3, x_4, .no, .no, .no]⟩ := fun s6 s7 s8 => by
                rw [elimK_n ha]
                exact ⟨_, G', _, _, _, _, _, rfl⟩
              generalize normR (swapR T a p) a = T2 at *
              generalize swapR T a p = T1 at *
              refine wp_for (fun k ρ => ∃ s7 s8, ρ = ⟨([], 0, 0, 0), [.s lot, .s rights, .s (.int n), .o (tabD n (n + 1) (elimK T2 a k)), .s (.int a), .s (.list (.int p :: tl)), .s (vL (n + 1) (T2 a)), s7, s8, .no, .no, .no]⟩) ⟨s7, s8, by rw [elimK_0]⟩ ?_ ?_
              · rintro k ρ hk ⟨t7, t8, rfl⟩
                by_cases hka : k = a
                · simp [hka]
                  rw [show elimK T2 a a = elimK T2 a (a + 1) from elimK_skip (.inl rfl)]
                  exact wp_some ⟨_, _, rfl⟩
                · have hka' : ¬ ((k : Int) = (a : Int)) := by omega
                  have hu : ∀ j, j < n + 1 → Sz (bd b a) (T2 k j) := fun j hj => by rw [hr2 k hka]; exact hs1 k j hk hj
                  have er : dRange (.int 0) (.int ((n : Int) + 1)) = some (vecF (n + 1) fun i => .int (i : Nat)) := d_range (n := n + 1) hwl
                  simp [hka', tab_ix hk, elimK_k, vL_ix haw, er, lst_its hwl]
                  rw [lcGo_vec (φ := fun j => frD (T2 k j - T2 k a * T2 a j))]
                  · simp only [bnd_some]
                    rw [show (PyData.list (vecF (n + 1) fun j => frD (T2 k j - T2 k a * T2 a j)) : D) = vL (n + 1) (fun j => T2 k j - T2 k a * T2 a j) from rfl]
                    simp [tab_st hk, elimK_set hka]
                    exact wp_some ⟨_, _, rfl⟩
                  · intro j hj
                    have f1 := F_law_times_eq (hu a haw).neg (ha2 j hj) (by omega)
                    have f2 := F_law_plus_eq (hu j hj) ((hu a haw).neg.mul (ha2 j hj)) (by omega)
                    have f3 : T2 k j + -T2 k a * T2 a j = T2 k j - T2 k a * T2 a j := by grind
                    rw [f3] at f2
                    rw [frD_neg] at f1
                    refine ⟨⟨([], 0, 0, 0), [.s lot, .s rights, .s (.int n), .o (tabD n (n + 1) (elimK T2 a k)), .s (.int a), .s (.list (.int p :: tl)), .s (vL (n + 1) (T2 a)), .s (.int k), .s (.tuple [.int (-(T2 k a).num), .int ((T2 k a).den : Nat)]), .no, .s (.int j), .no]⟩, ?_, rfl, ?_⟩
                    · simp [Ev.wipe, wipeS]
                    · simp [tab_ix hk, elimK_k, vL_ix hj, f1, f2]
              · rintro ρ ⟨t7, t8, rfl⟩
                exact hend _ t7 t8
            · intro j hj
              have f1 := F_law_fr_inv h0
              have f2 := F_law_times_eq (hTp j hj) ((hTp a haw).inv h0) (by omega)
              refine ⟨⟨([], 0, 0, 0), [.s lot, .s rights, .s (.int n), .o (tabD n (n + 1) (updT T p (T a))), .s (.int a), .s (.list (.int p :: tl)), .s (vL (n + 1) (T p)), s7, s8, .s (frD (T p j)), .no, .no]⟩, ?_, rfl, ?_⟩
              · simp [Ev.wipe, wipeS]
              · simp [vL_ix haw, f1, f2]
        · intro i hi
          refine ⟨⟨([], 0, 0, 0), [.s lot, .s rights, .s (.int n), .o (tabD n (n + 1) T), .s (.int a), s5, s6, .s (.int ((a + i : Nat) : Int)), s8, .no, .no, .no]⟩, ?_, ?_, ?_⟩
          · simp [Ev.wipe, wipeS]
          · have h1 : a + i < n := by omega
            have h2 : a < n + 1 := by omega
            have e := tab_ix (T := T) (w := n + 1) h1
            rw [Int.natCast_add] at e
            simp [e, vL_ix h2]
          · simp
      · rintro ρ h
        exact h
    · rintro ρ ⟨T, s4, s5, s6, s7, s8, G, rfl⟩
      simp
      rw [show tabD n (n + 1) T = vecF n fun i => vL (n + 1) (T i) from rfl, lst_its (show n ≤ 1000000 by omega)]
      simp
      rw [lcGo_vec (φ := fun i => frD (T i n))]
      · simp
        refine wp_some (.inr ⟨fun i => T i n, rfl, fun x => ?_, fun i hi => G.s i n hi (by omega)⟩)
        rw [← ker_sol (m := 1) (s := 0) (S := fun _ i => (S i : Rat)) (by decide), ← G.k]
        exact unit_sol (m := 1) (s := 0) (by decide) G.u x
      · intro i hi
        have e : dIx (vL (n + 1) (T i)) (.int (n : Int)) = some (frD (T i n)) := vL_ix (by omega)
        refine ⟨⟨([], 0, 0, 0), [.s lot, .s rights, .s (.int n), .o (tabD n (n + 1) T), s4, s5, s6, s7, s8, .no, .no, .s (vL (n + 1) (T i))]⟩, ?_, rfl, ?_⟩
        · simp [Ev.wipe, wipeS, tabD]
        · simp [e]
  · intro i hi
    have h2 : dItems (r i) = _ := hri i hi
    refine ⟨⟨([], 0, 0, 0), [.s lot, .s rights, .s (.int n), .no, .s (.int i), .no, .no, .no, .no, .no, .no, .no]⟩, ?_, rfl, ?_⟩
    · simp [Ev.wipe, wipeS]
    · have ec : dCat (.list (vecF n fun j => (PyData.int (R i j) : D))) (.list [.int (S i)]) = some (vecF (n + 1) fun j => .int (if j < n then R i j else S i)) := by
        unfold dCat
        simp only
        rw [if_pos (by simp; omega), vecF_succ]
        congr 2
        · exact vecF_congr fun j hj => by rw [if_pos hj]
        · rw [if_neg (by omega)]
      simp [ix_its hr hi, h2, ix_its hs hi, ec, lst_its (show n + 1 ≤ 1000000 by omega)]
      rw [lcGo_vec (φ := fun j => frD ((if j < n then R i j else S i : Int) : Rat))]
      · simp
        unfold vL
        congr 1
        refine vecF_congr fun j _ => ?_
        by_cases hj : j < n
        · simp only [if_pos hj]
        · simp only [if_neg hj]
      · intro j hj
        refine ⟨⟨([], 0, 0, 0), [.s lot, .s rights, .s (.int n), .no, .s (.int i), .no, .no, .no, .no, .s (.int (if j < n then R i j else S i)), .no, .no]⟩, ?_, rfl, ?_⟩
        · simp [Ev.wipe, wipeS]
        · simp
          rfl
end PX

namespace PX
open PySem L2 DL PG
section
variable {ρ : Ev} {i j : Nat} {f : MM D}
@[simp] theorem rg1 {w : DL.Row} : rowGet w 1 = some w.2.1 := (rfl)
@[simp] theorem rg2 {w : DL.Row} : rowGet w 2 = some w.2.2.1 := (rfl)
@[simp] theorem rg3 {w : DL.Row} : rowGet w 3 = some w.2.2.2 := (rfl)
@[simp] theorem rs1 {w : DL.Row} {v : Int} : rowSet w v 1 = some (w.1, v, w.2.2.1, w.2.2.2) := (rfl)
@[simp] theorem rs2 {w : DL.Row} {v : Int} : rowSet w v 2 = some (w.1, w.2.1, v, w.2.2.2) := (rfl)
@[simp] theorem rs3 {w : DL.Row} {v : Int} : rowSet w v 3 = some (w.1, w.2.1, w.2.2.1, v) := (rfl)
theorem e_rowI {v : Int} (h : ρ.get i = .row) (hv : rowGet ρ.row j = some v) : mRowI i j ρ = some (.int v, ρ.row) := by
  unfold mRowI
  rw [h]
  simp only
  rw [hv]
theorem e_rowLen (h : ρ.get i = .row) : mRowLen i ρ = some (.int ρ.row.1.length, ρ.row) := by
  unfold mRowLen
  rw [h]
theorem e_rowCell {k v : Int} {r : DL.Row} (h : ρ.get i = .row) (hf : f ρ = some (.int k, r)) (hr : r.1 = ρ.row.1) (hv : L2.atI r.1 k = some v) : mRowCell i f ρ = some (.int v, r) := by
  unfold mRowCell
  rw [h]
  simp only
  rw [hf]
  simp only
  rw [if_pos hr, hv]
theorem e_rowSet {v : Int} {r r' : DL.Row} (h : ρ.get i = .row) (hf : f ρ = some (.int v, r)) (hr : rowSet r v j = some r') : gRowSet i j f ρ = some (.nx (ρ.wr r')) := by
  unfold gRowSet
  rw [hf]
  simp only
  rw [h, hr]
@[simp] theorem e_consRow {fl : MM (List Sl)} (h : ρ.get i = .row) : mConsRow i fl ρ = bnd (fl ρ) fun l r => some (Sl.row :: l, r) := by
  unfold mConsRow
  rw [h]
  simp only
  rw [e_bind]
  rfl
end
theorem def_of {g : MS} {n N : Nat} {as : List Sl} {w w' : DL.Row} {d : D} (hl : as.length = n) (h : g ⟨w, as ++ List.replicate (N - n) .no⟩ = some (.ret d w')) : runDef g n N as w = some (d, w') := by
  unfold runDef
  rw [if_pos hl, h]
theorem d_pow18 : dPow (.int 10) (.int 18) = some (.int (10 ^ 18)) := by
  unfold dPow
  simp only
  rw [if_pos (by decide)]
  rfl
theorem F_law_taken_eq {w : DL.Row} {m : Int} (hw : RowOk w) (hm : 0 < m) : F_law_taken [.row, .s (.int m)] w = some (.int (takenR w m).1, (takenR w m).2) := by
  obtain ⟨h1, h2, h3, h4⟩ := hw
  have hm0 : m ≠ 0 := by omega
  refine def_of rfl ?_
  obtain ⟨sc, pl, sd, rs⟩ := w
  simp only at h1 h2 h3 h4
  have hmul : mulOk sd 48271 = true := mulOk_of (m := 31) (n := 16) (by have : (2 : Nat) ^ 31 = 2147483648 := rfl; omega) (by decide) (by decide)
  unfold g_law_taken takenR
  simp only [List.replicate, List.cons_append, List.nil_append]
  generalize hc : sc.getD pl.toNat 0 = c
  by_cases c1 : rs > 0
  · simp [e_rowI (j := 3) (v := rs), c1, hm0, hm]
    rw [e_rowSet (r := (sc, pl, sd, rs)) (v := rs.fdiv m) rfl (by simp [e_rowI (j := 3) (v := rs), hm0]) rfl]
    simp
  · have c1' : ¬ 0 < rs := c1
    simp [e_rowI (j := 3) (v := rs), c1']
    rw [e_rowSet (r := (sc, pl, sd, rs)) (v := pl + 1) rfl (by simp [e_rowI (j := 1) (v := pl)]) rfl]
    by_cases c2 : pl + 1 > (sc.length : Int)
    · have c2' : (sc.length : Int) < pl + 1 := c2
      simp [e_rowI (j := 1) (v := pl + 1), e_rowLen, c2']
      rw [e_rowSet (r := (sc, pl + 1, sd, rs)) (v := (sd * 48271 + 11).fmod 2147483647) rfl (by simp [e_rowI (j := 2) (v := sd), hmul]) rfl]
      simp [e_rowI (j := 2) (v := (sd * 48271 + 11).fmod 2147483647), hm0]
    · have c2' : ¬ (sc.length : Int) < pl + 1 := c2
      simp [e_rowI (j := 1) (v := pl + 1), e_rowLen, c2']
      have hlt : pl.toNat < sc.length := by omega
      have hat : L2.atI sc (pl + 1 - 1) = some c := by
        rw [← hc, show pl + 1 - 1 = ((pl.toNat : Nat) : Int) by omega, atI_nat hlt, List.getD_eq_getElem?_getD, List.getElem?_eq_getElem hlt]
        rfl
      rw [e_rowCell (r := (sc, pl + 1, sd, rs)) (k := pl + 1 - 1) (v := c) rfl (by simp [e_rowI (j := 1) (v := pl + 1)]) rfl hat]
      simp
      rw [e_rowSet (r := (sc, pl + 1, sd, rs)) (v := (sd * 48271 + c + 11).fmod 2147483647) rfl (by simp [e_rowI (j := 2) (v := sd), hmul]) rfl]
      have c1'' : ¬ rs > 0 := c1
      by_cases c3 : c ≥ 10 ^ 18
      · have c3'' : (1000000000000000000 : Int) ≤ c := by simpa using c3
        simp [d_pow18]
        rw [decide_eq_true c3'']
        simp
        rw [e_rowSet (r := (sc, pl + 1, (sd * 48271 + c + 11).fmod 2147483647, rs)) (v := c.fdiv m) rfl (by simp [hm0]) rfl]
        simp [hm0, c3'']
      · have c3'' : ¬ (1000000000000000000 : Int) ≤ c := by simpa using c3
        simp [d_pow18]
        rw [decide_eq_false c3'']
        simp [hm0, c3'']
end PX

namespace PX
open PySem L2 DL PG
/-- a row function's outcome -/
def RetW (P : D → DL.Row → Prop) : Oc → Prop
  | .ret d w => P d w
  | .nx ρ => P .none ρ.row
  | _ => False
theorem def_wp {g : MS} {n N : Nat} {as : List Sl} {w : DL.Row} {P : D → DL.Row → Prop} (hl : as.length = n) (h : wp (g ⟨w, as ++ List.replicate (N - n) .no⟩) (RetW P)) : ∃ d w', runDef g n N as w = some (d, w') ∧ P d w' := by
  obtain ⟨oc, e, h⟩ := h
  unfold runDef
  rw [if_pos hl, e]
  cases oc with
  | ret d w' => exact ⟨_, _, rfl, h⟩
  | nx ρ => exact ⟨_, _, rfl, h⟩
  | bk ρ => exact h.elim
  | ct ρ => exact h.elim
theorem taken_ok {w : DL.Row} {m : Int} (hw : RowOk w) (hm : 0 < m) : ∃ (k : Nat) (w' : DL.Row), F_law_taken [.row, .s (.int m)] w = some (.int (k : Nat), w') ∧ RowOk w' ∧ (k : Int) < m := by
  obtain ⟨h1, h2⟩ := takenR_range w hm
  refine ⟨(takenR w m).1.toNat, (takenR w m).2, ?_, takenR_ok hw, by omega⟩
  rw [F_law_taken_eq hw hm, Int.toNat_of_nonneg h1]
theorem number_ok {w : DL.Row} {z : Nat} (hw : RowOk w) (hz : z ≤ 1000) : ∃ (k : Int) (w' : DL.Row), F_law_number [.row, .s (.int (z : Nat))] w = some (.int k, w') ∧ RowOk w' ∧ k.natAbs ≤ z := by
  obtain ⟨k, w', e, hw', hk⟩ := taken_ok (m := 2 * (z : Int) + 1) hw (by omega)
  have hm : mulOk 2 (z : Int) = true := mulOk_of (m := 2) (n := 10) (by decide) (by have : (2 : Nat) ^ 10 = 1024 := rfl; omega) (by decide)
  refine ⟨(k : Int) - z, w', ?_, hw', by omega⟩
  refine def_of rfl ?_
  unfold g_law_number
  simp [hm, e]
/-! ### sums of ints -/
def isum (n : Nat) (f : Nat → Int) : Int := (vecF n f).sum
theorem isum_succ {n : Nat} {f : Nat → Int} : isum (n + 1) f = isum n f + f n := by
  unfold isum
  rw [vecF_succ, List.sum_append]
  simp
theorem isum_cast {n : Nat} {f : Nat → Int} : ((isum n f : Int) : Rat) = sumN n fun i => (f i : Rat) := by
  induction n with
  | zero => rfl
  | succ n ih =>
    rw [isum_succ, Rat.intCast_add, ih]
    rfl
theorem isum_le {n b : Nat} {f : Nat → Int} (h : ∀ i, i < n → (f i).natAbs ≤ b) : (isum n f).natAbs ≤ n * b := by
  induction n with
  | zero => simp [isum]
  | succ n ih =>
    rw [isum_succ]
    have h1 := ih fun i hi => h i (by omega)
    have h2 := h n (by omega)
    have h3 := Int.natAbs_add_le (isum n f) (f n)
    rw [Nat.succ_mul]
    omega
theorem isum_congr {n : Nat} {f g : Nat → Int} (h : ∀ i, i < n → f i = g i) : isum n f = isum n g := by
  unfold isum
  rw [vecF_congr h]
theorem toInts_vec {n : Nat} {t : Nat → Int} : toInts (vecF n fun i => .int (t i)) = some (vecF n t) := by
  unfold vecF
  generalize List.range n = l
  induction l with
  | nil => rfl
  | cons i l ih =>
    rw [List.map_cons, List.map_cons]
    unfold toInts
    rw [ih]
theorem d_sum {n : Nat} {f : Nat → Int} : dSum (.list (vecF n fun i => .int (f i))) = some (.int (isum n f)) := by
  unfold dSum
  simp only [toInts_vec]
  rfl
/-! ### the squares -/
/-- BᵀB + diag (1 + e) -/
def sqM (n : Nat) (B : Nat → Nat → Int) (e : Nat → Int) (i j : Nat) : Int := isum n (fun k => B k i * B k j) + if j = i then 1 + e i else 0
theorem sq_pd {n : Nat} {B : Nat → Nat → Int} {e : Nat → Int} (he : ∀ i, i < n → 0 ≤ e i) (z : Nat → Rat) (hz : ∃ i, i < n ∧ z i ≠ 0) : 0 < sumN n fun i => z i * sumN n fun j => ((sqM n B e i j : Int) : Rat) * z j := by
  have h1 : (sumN n fun i => z i * sumN n fun j => ((sqM n B e i j : Int) : Rat) * z j) = (sumN n fun k => (sumN n fun i => (B k i : Rat) * z i) * (sumN n fun i => (B k i : Rat) * z i)) + sumN n fun i => (1 + (e i : Rat)) * (z i * z i) := by
    have e1 : ∀ i, i < n → (sumN n fun j => ((sqM n B e i j : Int) : Rat) * z j) = (sumN n fun k => (B k i : Rat) * sumN n fun j => (B k j : Rat) * z j) + (1 + (e i : Rat)) * z i := fun i hi => by
      have e2 : (sumN n fun j => ((sqM n B e i j : Int) : Rat) * z j) = (sumN n fun j => (sumN n fun k => (B k i : Rat) * (B k j : Rat)) * z j) + sumN n fun j => if j = i then (1 + (e i : Rat)) * z i else 0 := by
        rw [← sumN_add]
        refine sumN_congr fun j _ => ?_
        have e3 : ((sqM n B e i j : Int) : Rat) = (sumN n fun k => (B k i : Rat) * (B k j : Rat)) + if j = i then 1 + (e i : Rat) else 0 := by
          unfold sqM
          rw [Rat.intCast_add, isum_cast]
          congr 1
          · exact sumN_congr fun k _ => Rat.intCast_mul _ _
          · by_cases h : j = i
            · rw [if_pos h, if_pos h, Rat.intCast_add]
              rfl
            · rw [if_neg h, if_neg h]
              rfl
        rw [e3]
        by_cases h : j = i
        · subst h
          simp only [if_true]
          grind
        · simp only [h, if_false]
          grind
      rw [e2, sumN_one hi fun j _ hj => if_neg hj, if_pos rfl]
      congr 1
      have e4 : (sumN n fun j => (sumN n fun k => (B k i : Rat) * (B k j : Rat)) * z j) = sumN n fun j => sumN n fun k => (B k i : Rat) * ((B k j : Rat) * z j) := sumN_congr fun j _ => by
        rw [← sumN_mul_right]
        exact sumN_congr fun k _ => by grind
      rw [e4, sumN_comm]
      exact sumN_congr fun k _ => sumN_mul
    rw [sumN_congr fun i hi => by rw [e1 i hi]]
    have e5 : (sumN n fun i => z i * ((sumN n fun k => (B k i : Rat) * sumN n fun j => (B k j : Rat) * z j) + (1 + (e i : Rat)) * z i)) = (sumN n fun i => sumN n fun k => ((B k i : Rat) * z i) * sumN n fun j => (B k j : Rat) * z j) + sumN n fun i => (1 + (e i : Rat)) * (z i * z i) := by
      rw [← sumN_add]
      refine sumN_congr fun i _ => ?_
      rw [show z i * ((sumN n fun k => (B k i : Rat) * sumN n fun j => (B k j : Rat) * z j) + (1 + (e i : Rat)) * z i) = z i * (sumN n fun k => (B k i : Rat) * sumN n fun j => (B k j : Rat) * z j) + (1 + (e i : Rat)) * (z i * z i) by grind, ← sumN_mul]
      congr 1
      exact sumN_congr fun k _ => by grind
    rw [e5, sumN_comm]
    congr 1
    exact sumN_congr fun k _ => sumN_mul_right
  rw [h1]
  have sqn : ∀ a : Rat, 0 ≤ a * a := fun a => by
    rcases Rat.nonneg_total a with h | h
    · exact Rat.mul_nonneg h h
    · have := Rat.mul_nonneg h h
      grind
  have h2 : 0 ≤ sumN n fun k => (sumN n fun i => (B k i : Rat) * z i) * (sumN n fun i => (B k i : Rat) * z i) := sumN_nonneg fun k _ => sqn _
  obtain ⟨i, hi, hzi⟩ := hz
  have ce : ∀ i, i < n → 0 ≤ (e i : Rat) := fun i hi => by exact_mod_cast he i hi
  have h3 : 0 < sumN n fun i => (1 + (e i : Rat)) * (z i * z i) := by
    refine sumN_pos hi (fun k hk => Rat.mul_nonneg (by have := ce k hk; grind) (sqn _)) ?_
    have h4 := sqn (z i)
    have h5 : z i * z i ≠ 0 := fun h => by
      rcases Rat.mul_eq_zero.mp h with h | h <;> exact hzi h
    have h6 : 0 < z i * z i := by grind
    have h7 := ce i hi
    have h8 : 0 ≤ (e i : Rat) * (z i * z i) := Rat.mul_nonneg h7 h4
    grind
  grind
end PX

namespace PX
open PySem L2 DL PG
theorem mulOk10 {i j : Int} (h1 : i.natAbs ≤ 1000) (h2 : j.natAbs ≤ 1000) : mulOk i j = true := mulOk_of (pow10 h1) (pow10 h2) (by decide)
theorem sq_congr {n : Nat} {B : Nat → Nat → Int} {e e' : Nat → Int} {i : Nat} (h : e i = e' i) : sqM n B e i = sqM n B e' i := by
  funext j
  unfold sqM
  rw [h]
def SqJ (n z : Nat) (B : Nat → Nat → Int) (i : Nat) (ρ : Ev) : Prop := ∃ w e s5 s6, RowOk w ∧ (∀ k, k < i → 0 ≤ e k ∧ e k ≤ 1) ∧ ρ = ⟨w, [.row, .s (.int (n : Nat)), .s (.int (z : Nat)), .s (.list (vecF n fun i => iL n (B i))), .o (vecF i fun k => iT n (sqM n B e k)), s5, s6, .no, .no, .no]⟩
theorem F_law_squares_ok {w : DL.Row} {n z : Nat} (hw : RowOk w) (hn : n ≤ 4) (hz : z ≤ 10) :
    ∃ d w', F_law_squares [.row, .s (.int (n : Nat)), .s (.int (z : Nat))] w = some (d, w') ∧ RowOk w' ∧ ∃ B e, d = .tuple (vecF n fun i => iT n (sqM n B e i)) ∧ (∀ i j, i < n → j < n → (B i j).natAbs ≤ z) ∧ ∀ i, i < n → 0 ≤ e i ∧ e i ≤ 1 := by
  refine def_wp (P := fun d w' => RowOk w' ∧ ∃ B e, d = .tuple (vecF n fun i => iT n (sqM n B e i)) ∧ (∀ i j, i < n → j < n → (B i j).natAbs ≤ z) ∧ ∀ i, i < n → 0 ≤ e i ∧ e i ≤ 1) rfl ?_
  unfold g_law_squares
  simp [d_range (show n ≤ 1000000 by omega), lst_its (show n ≤ 1000000 by omega)]
  obtain ⟨B, w1, e1, hw1, hB⟩ := lcGo_draw (vs := [7]) (fg := gtName 7) (ft := mRet true) (fe := (mBind (mLc [5] (mRange1 (mVar 1)) (gtName 5) (mRet true) (mCallG F_law_number (mConsRow 0 (mConsS (mVar 2) (mRet []))))) fun ds => mRet (.list ds))) RowOk (fun _ (f : Nat → Int) => ∀ j, j < n → (f j).natAbs ≤ z) (fun f => iL n f) (n := n) (c := fun i => .int (i : Nat)) (sl := [.row, .s (.int n), .s (.int z), .no, .no, .no, .no, .no, .no, .no]) hw (fun i w hi hw => by
    obtain ⟨f, w2, e2, hw2, hf⟩ := lcGo_draw (vs := [5]) (fg := gtName 5) (ft := mRet true) (fe := (mCallG F_law_number (mConsRow 0 (mConsS (mVar 2) (mRet []))))) RowOk (fun _ (k : Int) => k.natAbs ≤ z) (fun k => .int k) (n := n) (c := fun i => .int (i : Nat)) (sl := [.row, .s (.int n), .s (.int z), .no, .no, .no, .no, .s (.int i), .no, .no]) hw (fun j w hj hw => by
      obtain ⟨k, w', e, h3, h4⟩ := number_ok (z := z) hw (by omega)
      refine ⟨⟨w, [.row, .s (.int n), .s (.int z), .no, .no, .s (.int j), .no, .s (.int i), .no, .no]⟩, k, w', ?_, rfl, ?_, h3, h4⟩
      · simp [Ev.wipe, wipeS]
      · simp [e])
    refine ⟨⟨w, [.row, .s (.int n), .s (.int z), .no, .no, .no, .no, .s (.int i), .no, .no]⟩, f, w2, ?_, rfl, ?_, hw2, hf⟩
    · simp [Ev.wipe, wipeS]
    · simp [d_range (show n ≤ 1000000 by omega), lst_its (show n ≤ 1000000 by omega), e2]
      rfl)
  rw [e1]
  simp [d_range (show n ≤ 1000000 by omega)]
  refine wp_thn (SqJ n z B n) ?_ ?_
  · refine wp_for (SqJ n z B) ⟨_, fun _ => 0, _, _, hw1, fun k hk => absurd hk (Nat.not_lt_zero _), rfl⟩ ?_ ?_
    · rintro a ρ ha ⟨w, e, s5, s6, hw, he, rfl⟩
      simp [d_range (show n ≤ 1000000 by omega), lst_its (show n ≤ 1000000 by omega)]
      rw [lcGo_vec (φ := fun j => .int (isum n fun k => B k a * B k j))]
      · obtain ⟨k, w', et, hw', hk⟩ := taken_ok (m := 2) hw (by decide)
        have e6 : stO (.o (vecF n fun j => .int (isum n fun k => B k a * B k j))) (a : Int) (.int ((isum n fun k => B k a * B k a) + 1 + (k : Int))) = some (.o (vecF n fun j => .int (sqM n B (fun i => if i = a then (k : Int) else e i) a j))) := by
          unfold stO
          simp only [vecF_len, ixN_nat ha, vecF_set]
          congr 2
          refine vecF_congr fun j hj => ?_
          unfold sqM
          by_cases h : j = a
          · subst h
            simp only [if_true]
            congr 1
            omega
          · rw [if_neg h, if_neg h, Int.add_zero]
        have e7 : apO (.o (vecF a fun k => iT n (sqM n B e k))) (.tuple (vecF n fun j => .int (sqM n B (fun i => if i = a then (k : Int) else e i) a j))) = some (.o (vecF (a + 1) fun i => iT n (sqM n B (fun i => if i = a then (k : Int) else e i) i))) := by
          rw [ap_o (by simp; omega), vecF_succ]
          congr 3
          refine vecF_congr fun i hi => ?_
          rw [sq_congr (e := e) (e' := fun i => if i = a then (k : Int) else e i)]
          rw [if_neg (by omega)]
        simp [atI_vec ha, et, e6, e7]
        refine wp_some ⟨_, fun i => if i = a then (k : Int) else e i, _, _, hw', fun i hi => ?_, rfl⟩
        by_cases h : i = a
        · simp only [h, if_true]; omega
        · simp only [h, if_false]; exact he i (by omega)
      · intro j hj
        refine ⟨⟨w, [.row, .s (.int n), .s (.int z), .s (.list (vecF n fun i => iL n (B i))), .o (vecF a fun k => iT n (sqM n B e k)), .s (.int a), s6, .no, .s (.int j), .no]⟩, ?_, rfl, ?_⟩
        · simp [Ev.wipe, wipeS]
        · simp [lst_its (show n ≤ 1000000 by omega)]
          rw [lcGo_vec (φ := fun k => .int (B k a * B k j))]
          · simp [d_sum]
          · intro k hk
            refine ⟨⟨w, [.row, .s (.int n), .s (.int z), .s (.list (vecF n fun i => iL n (B i))), .o (vecF a fun k => iT n (sqM n B e k)), .s (.int a), s6, .no, .s (.int j), .s (iL n (B k))]⟩, ?_, rfl, ?_⟩
            · simp [Ev.wipe, wipeS]
            · have hm : mulOk (B k a) (B k j) = true := mulOk10 (by have := hB k hk a ha; omega) (by have := hB k hk j hj; omega)
              simp [ix_its (its_iL (v := B k)) ha, ix_its (its_iL (v := B k)) hj, hm]
    · rintro ρ h
      exact h
  · rintro ρ ⟨w, e, s5, s6, hw, he, rfl⟩
    simp
    exact wp_some ⟨hw, B, e, rfl, fun i j hi hj => hB i hi j hj, he⟩
theorem F_law_share_ok {w : DL.Row} {z l : Nat} (hw : RowOk w) (hz : z ≤ 1000) (h0 : 0 < l) (hl : l ≤ 1000) :
    ∃ (s : Rat) (w' : DL.Row), F_law_share [.row, .s (.int (z : Nat)), .s (.int (l : Nat))] w = some (frD s, w') ∧ RowOk w' ∧ Sz 10 s := by
  obtain ⟨k, w1, e1, hw1, hk⟩ := number_ok (z := z) hw hz
  obtain ⟨m, w2, e2, hw2, hm⟩ := taken_ok (m := (l : Int)) hw1 (by omega)
  have h1 : (1 : Int) + (m : Int) ≠ 0 := by omega
  have hs : Sz 10 (Rat.divInt k (1 + (m : Int))) := Sz.divInt (by have : (2 : Nat) ^ 10 = 1024 := rfl; omega) (by have : (2 : Nat) ^ 10 = 1024 := rfl; omega) h1
  refine ⟨_, w2, ?_, hw2, hs⟩
  refine def_of rfl ?_
  unfold g_law_share
  simp [e1, e2, F_law_fr_eq h1]
end PX

namespace PX
open PySem L2 DL PG
def rowD' (n : Nat) (A : Nat → Nat → Int) (b e : Nat → Int) (i : Nat) : D := .tuple [iT n (A i), .int (b i), .int (e i)]
def TkJ (n z : Nat) (cols rows : Nat) (sq : D) (c d : Nat → Int) (i : Nat) (ρ : Ev) : Prop := ∃ w A b e s9 s10, RowOk w ∧ (∀ k, k < i → (∀ j, j < n → (A k j).natAbs ≤ z) ∧ (b k).natAbs ≤ 5 ∧ (e k).natAbs ≤ 2) ∧
  ρ = ⟨w, [.row, .s (.int (cols : Nat)), .s (.int (rows : Nat)), .s (.int (z : Nat)), .s (.int (n : Nat)), .s sq, .s (iT n c), .s (iT n d), .o (vecF i (rowD' n A b e)), s9, s10, .no]⟩
/-- a drawn task -/
structure Drawn (t : Tk) (cols rows : Nat) : Prop where
  ok : t.Ok
  n : t.n ≤ cols
  h : t.h ≤ rows
theorem upd_lt {α : Type} {i k : Nat} {f : Nat → α} {x : α} (h : k < i) : (if k = i then x else f k) = f k := if_neg (by omega)
theorem F_law_task_ok {w : DL.Row} {cols rows z : Nat} (hw : RowOk w) (hc : 0 < cols) (hc4 : cols ≤ 4) (hr : rows ≤ 8) (hz : z ≤ 100) :
    ∃ d w', F_law_task [.row, .s (.int (cols : Nat)), .s (.int (rows : Nat)), .s (.int (z : Nat))] w = some (d, w') ∧ RowOk w' ∧ ∃ t : Tk, d = t.dat ∧ Drawn t cols rows := by
  refine def_wp (P := fun d w' => RowOk w' ∧ ∃ t : Tk, d = t.dat ∧ Drawn t cols rows) rfl ?_
  unfold g_law_task
  obtain ⟨n0, w1, e1, hw1, hn0⟩ := taken_ok (m := (cols : Int)) hw (by omega)
  obtain ⟨z0, w2, e2, hw2, hz0⟩ := taken_ok (m := 2) hw1 (by decide)
  obtain ⟨n, hn⟩ : ∃ n, n = 1 + n0 := ⟨_, rfl⟩
  have hni : (1 : Int) + (n0 : Int) = (n : Int) := by omega
  have hzi : (1 : Int) + (z0 : Int) = ((1 + z0 : Nat) : Int) := by omega
  have hn4 : n ≤ 4 := by omega
  obtain ⟨sq, w3, e3, hw3, B, e, rfl, hB, he⟩ := F_law_squares_ok (n := n) (z := 1 + z0) hw2 hn4 (by omega)
  have e3' : F_law_squares [.row, .s (.int (n : Nat)), .s (.int (1 + (z0 : Int)))] w2 = some (PyData.tuple (vecF n fun i => iT n (sqM n B e i)), w3) := by rw [hzi]; exact e3
  generalize hsq : (PyData.tuple (vecF n fun i => iT n (sqM n B e i)) : D) = sq at *
  simp [e1, hni, e2, e3', d_range (show n ≤ 1000000 by omega), lst_its (show n ≤ 1000000 by omega)]
  obtain ⟨c, w4, e4, hw4, hcc⟩ := lcGo_draw (vs := [11]) (fg := gtName 11) (ft := mRet true) (fe := mCallG F_law_number (mConsRow 0 (mConsS (mRet (.int 5)) (mRet [])))) RowOk (fun _ (k : Int) => k.natAbs ≤ 5) (fun k => .int k) (n := n) (c := fun i => .int (i : Nat)) (sl := [.row, .s (.int cols), .s (.int rows), .s (.int z), .s (.int n), .s sq, .no, .no, .no, .no, .no, .no]) hw3 (fun j w hj hw => by
    obtain ⟨k, w', e, h3, h4⟩ := number_ok (z := 5) hw (by decide)
    refine ⟨⟨w, [.row, .s (.int cols), .s (.int rows), .s (.int z), .s (.int n), .s sq, .no, .no, .no, .no, .no, .s (.int j)]⟩, k, w', ?_, rfl, ?_, h3, h4⟩
    · simp [Ev.wipe, wipeS]
    · have e' : F_law_number [.row, .s (.int 5)] w = some (.int k, w') := e
      simp [e'])
  rw [e4]
  simp [d_range (show n ≤ 1000000 by omega), lst_its (show n ≤ 1000000 by omega)]
  rw [show (PyData.tuple (vecF n fun i => (PyData.int (c i) : D)) : D) = iT n c from rfl]
  obtain ⟨d, w5, e5, hw5, hdd⟩ := lcGo_draw (vs := [11]) (fg := gtName 11) (ft := mRet true) (fe := mCallG F_law_number (mConsRow 0 (mConsS (mRet (.int 3)) (mRet [])))) RowOk (fun _ (k : Int) => k.natAbs ≤ 3) (fun k => .int k) (n := n) (c := fun i => .int (i : Nat)) (sl := [.row, .s (.int cols), .s (.int rows), .s (.int z), .s (.int n), .s sq, .s (iT n c), .no, .no, .no, .no, .no]) hw4 (fun j w hj hw => by
    obtain ⟨k, w', e, h3, h4⟩ := number_ok (z := 3) hw (by decide)
    refine ⟨⟨w, [.row, .s (.int cols), .s (.int rows), .s (.int z), .s (.int n), .s sq, .s (iT n c), .no, .no, .no, .no, .s (.int j)]⟩, k, w', ?_, rfl, ?_, h3, h4⟩
    · simp [Ev.wipe, wipeS]
    · have e' : F_law_number [.row, .s (.int 3)] w = some (.int k, w') := e
      simp [e'])
  rw [e5]
  obtain ⟨h, w6, e6, hw6, hh⟩ := taken_ok (m := (rows : Int) + 1) hw5 (by omega)
  have hh8 : h ≤ 8 := by omega
  simp [e6, d_range (show h ≤ 1000000 by omega)]
  rw [show (PyData.tuple (vecF n fun i => (PyData.int (d i) : D)) : D) = iT n d from rfl]
  refine wp_thn (TkJ n z cols rows sq c d h) ?_ ?_
  · refine wp_for (TkJ n z cols rows sq c d) ⟨_, fun _ _ => 0, fun _ => 0, fun _ => 0, _, _, hw6, fun k hk => absurd hk (Nat.not_lt_zero _), rfl⟩ ?_ ?_
    · rintro i ρ hi ⟨w, A, b, f, s9, s10, hw, hA, rfl⟩
      simp [d_range (show n ≤ 1000000 by omega), lst_its (show n ≤ 1000000 by omega)]
      obtain ⟨a, w7, e7, hw7, ha⟩ := lcGo_draw (vs := [11]) (fg := gtName 11) (ft := mRet true) (fe := mCallG F_law_number (mConsRow 0 (mConsS (mVar 3) (mRet [])))) RowOk (fun _ (k : Int) => k.natAbs ≤ z) (fun k => .int k) (n := n) (c := fun i => .int (i : Nat)) (sl := [.row, .s (.int cols), .s (.int rows), .s (.int z), .s (.int n), .s sq, .s (iT n c), .s (iT n d), .o (vecF i (rowD' n A b f)), .s (.int i), s10, .no]) hw (fun j w hj hw => by
        obtain ⟨k, w', e, h3, h4⟩ := number_ok (z := z) hw (by omega)
        refine ⟨⟨w, [.row, .s (.int cols), .s (.int rows), .s (.int z), .s (.int n), .s sq, .s (iT n c), .s (iT n d), .o (vecF i (rowD' n A b f)), .s (.int i), s10, .s (.int j)]⟩, k, w', ?_, rfl, ?_, h3, h4⟩
        · simp [Ev.wipe, wipeS]
        · simp [e])
      rw [e7]
      simp
      rw [show (PyData.tuple (vecF n fun i => (PyData.int (a i) : D)) : D) = iT n a from rfl]
      obtain ⟨k1, w8, e8, hw8, hk1⟩ := number_ok (z := 5) hw7 (by decide)
      have e8' : F_law_number [.row, .s (.int 5)] w7 = some (.int k1, w8) := e8
      obtain ⟨k2, w9, e9, hw9, hk2⟩ := taken_ok (m := 2) hw8 (by decide)
      have fin : ∀ (k3 : Int) (w10 : DL.Row), RowOk w10 → k3.natAbs ≤ 2 → apO (.o (vecF i (rowD' n A b f))) (.tuple [iT n a, .int k1, .int k3]) = some (.o (vecF (i + 1) (rowD' n (fun k => if k = i then a else A k) (fun k => if k = i then k1 else b k) (fun k => if k = i then k3 else f k)))) ∧
          ∀ k, k < i + 1 → (∀ j, j < n → ((fun k => if k = i then a else A k) k j).natAbs ≤ z) ∧ ((fun k => if k = i then k1 else b k) k).natAbs ≤ 5 ∧ ((fun k => if k = i then k3 else f k) k).natAbs ≤ 2 := fun k3 w10 _ hk3 => by
        refine ⟨?_, fun k hk => ?_⟩
        · rw [ap_o (by simp; omega), vecF_succ]
          congr 3
          · refine vecF_congr fun k hk => ?_
            unfold rowD'
            simp only [upd_lt hk]
          · unfold rowD'
            simp
        · by_cases h : k = i
          · simp only [h, if_true]
            exact ⟨ha, hk1, hk3⟩
          · simp only [h, if_false]
            exact hA k (by omega)
      by_cases hk : k2 = 0
      · obtain ⟨k3, w10, e10, hw10, hk3⟩ := number_ok (z := 2) hw9 (by decide)
        have e10' : F_law_number [.row, .s (.int 2)] w9 = some (.int k3, w10) := e10
        obtain ⟨q1, q2⟩ := fin k3 w10 hw10 hk3
        simp [e8', e9, hk, e10', q1]
        exact wp_some ⟨_, _, _, _, _, _, hw10, q2, rfl⟩
      · have hk' : ¬ ((k2 : Int) = 0) := by omega
        obtain ⟨q1, q2⟩ := fin 0 w9 hw9 (by decide)
        simp [e8', e9, hk, hk', q1]
        exact wp_some ⟨_, _, _, _, _, _, hw9, q2, rfl⟩
    · rintro ρ h
      exact h
  · rintro ρ ⟨w, A, b, f, s9, s10, hw, hA, rfl⟩
    simp
    refine wp_some ⟨hw, ⟨n, h, sqM n B e, c, d, A, b, f⟩, ?_, ⟨by show 1 ≤ n; omega, hn4, hh8, fun i j hi hj => ?_, fun i hi => ?_, fun i hi => ?_, fun i j hi hj => ?_, fun i hi => ?_, fun i hi => ?_, fun i j hi hj => ?_, fun y hy => ?_⟩, by show n ≤ cols; omega, by show h ≤ rows; omega⟩
    · rw [← hsq]
      rfl
    · show (sqM n B e i j).natAbs ≤ 1000
      unfold sqM
      have i1 := isum_le (n := n) (b := 4) (f := fun k => B k i * B k j) fun k hk => by
        rw [Int.natAbs_mul]
        have b1 := hB k i hk hi
        have b2 := hB k j hk hj
        have := Nat.mul_le_mul (show (B k i).natAbs ≤ 2 by omega) (show (B k j).natAbs ≤ 2 by omega)
        omega
      have i2 := he i hi
      have i3 : n * 4 ≤ 16 := by omega
      split <;> omega
    · have := hcc i hi
      show (c i).natAbs ≤ 1000
      omega
    · have := hdd i hi
      show (d i).natAbs ≤ 1000
      omega
    · have := (hA i hi).1 j hj
      show (A i j).natAbs ≤ 1000
      omega
    · have := (hA i hi).2.1
      show (b i).natAbs ≤ 1000
      omega
    · have := (hA i hi).2.2
      show (f i).natAbs ≤ 1000
      omega
    · show sqM n B e i j = sqM n B e j i
      unfold sqM
      have : isum n (fun k => B k i * B k j) = isum n (fun k => B k j * B k i) := isum_congr fun k _ => Int.mul_comm _ _
      rw [this]
      by_cases h : j = i
      · subst h; rfl
      · rw [if_neg h, if_neg fun z => h z.symm]
    · exact sq_pd (fun i hi => (he i hi).1) y hy
end PX

namespace PX
open PySem L2 DL PG
section
variable {t : Tk} {s : Rat} {v w X Y : Nat → Rat}
theorem Tk.quad_nonneg (ok : t.Ok) (z : Nat → Rat) : 0 ≤ sumN t.n fun j => z j * t.Mx z j := by
  by_cases h : ∃ i, i < t.n ∧ z i ≠ 0
  · have := ok.pd z h
    show 0 ≤ sumN t.n fun i => z i * sumN t.n fun j => (t.M i j : Rat) * z j
    grind
  · rw [sumN_zero fun j hj => ?_]
    · exact Rat.le_refl
    · have : z j = 0 := Classical.byContradiction fun n => h ⟨j, hj, n⟩
      rw [this, Rat.zero_mul]
theorem Tk.Mx_sym (ok : t.Ok) : (sumN t.n fun j => X j * t.Mx Y j) = sumN t.n fun j => Y j * t.Mx X j := by
  have e : ∀ X Y : Nat → Rat, (sumN t.n fun j => X j * t.Mx Y j) = sumN t.n fun i => sumN t.n fun j => X i * ((t.M i j : Rat) * Y j) := fun X Y => sumN_congr fun i _ => sumN_mul.symm
  rw [e, e, sumN_comm]
  refine sumN_congr fun i hi => sumN_congr fun j hj => ?_
  rw [ok.sym j i hj hi]
  grind
theorem Tk.Mx_sub : ∀ i, t.Mx (fun j => X j - Y j) i = t.Mx X i - t.Mx Y i := fun i => by
  unfold Tk.Mx
  rw [← sumN_sub]
  exact sumN_congr fun j _ => by grind
theorem Tk.Mx_uni (ok : t.Ok) (h : ∀ i, i < t.n → t.Mx X i = t.Mx Y i) : ∀ i, i < t.n → X i = Y i := fun i hi => Classical.byContradiction fun n => by
  refine Tk.no_null ok ⟨fun j => X j - Y j, ⟨i, hi, fun z => n (by grind)⟩, fun k hk => ?_⟩
  have := Tk.Mx_sub (t := t) (X := X) (Y := Y) k
  rw [h k hk] at this
  show t.Mx (fun j => X j - Y j) k = 0
  rw [this]
  grind
theorem Tk.Ax_Aw : (sumN t.h fun i => t.Ax v i * w i) = sumN t.n fun j => v j * t.Aw w j := by
  have e1 : (sumN t.h fun i => t.Ax v i * w i) = sumN t.h fun i => sumN t.n fun j => ((t.A i j : Rat) * v j) * w i := sumN_congr fun i _ => sumN_mul_right.symm
  have e2 : (sumN t.n fun j => v j * t.Aw w j) = sumN t.n fun j => sumN t.h fun i => v j * ((t.A i j : Rat) * w i) := sumN_congr fun j _ => sumN_mul.symm
  rw [e1, e2, sumN_comm]
  exact sumN_congr fun j _ => sumN_congr fun i _ => by grind
theorem sumN_le {n : Nat} {f g : Nat → Rat} (h : ∀ i, i < n → f i ≤ g i) : sumN n f ≤ sumN n g := by
  have := sumN_nonneg (n := n) (f := fun i => g i - f i) fun i hi => by have := h i hi; grind
  rw [sumN_sub] at this
  grind
/-- no promise of weights is above the worth of a plan that is kept -/
theorem Tk.weak (ok : t.Ok) (hg : ∀ i, i < t.h → 0 ≤ t.gap s v i) (hw : ∀ i, i < t.h → 0 ≤ w i) (hX : ∀ i, i < t.n → t.Mx X i = t.free s w i) : - sumN t.n (fun j => t.free s w j * X j / 2) + t.lim s w ≤ t.worth s v := by
  have h1 : t.lim s w ≤ sumN t.n fun j => v j * t.Aw w j := by
    rw [← Tk.Ax_Aw]
    unfold Tk.lim
    refine sumN_le fun i hi => ?_
    have g := hg i hi
    unfold Tk.gap at g
    have := Rat.mul_nonneg g (hw i hi)
    grind
  have h2 : (sumN t.n fun j => v j * t.Aw w j) = (sumN t.n fun j => v j * t.Mx X j) + sumN t.n fun j => v j * t.cost s j := by
    rw [← sumN_add]
    refine sumN_congr fun j hj => ?_
    rw [hX j hj]
    unfold Tk.free
    grind
  have h3 : t.worth s v = (sumN t.n fun j => v j * t.Mx v j) / 2 + sumN t.n fun j => v j * t.cost s j := by
    unfold Tk.worth
    rw [Rat.div_def, ← sumN_mul_right, ← sumN_add]
    exact sumN_congr fun j _ => by rw [Rat.div_def]; grind
  have h4 : (sumN t.n fun j => t.free s w j * X j / 2) = (sumN t.n fun j => X j * t.Mx X j) / 2 := by
    rw [Rat.div_def, ← sumN_mul_right]
    exact sumN_congr fun j hj => by rw [hX j hj, Rat.div_def]; grind
  have h5 := Tk.quad_nonneg ok fun j => v j - X j
  have h6 : (sumN t.n fun j => (v j - X j) * t.Mx (fun j => v j - X j) j) = (sumN t.n fun j => v j * t.Mx v j) - (sumN t.n fun j => v j * t.Mx X j) - (sumN t.n fun j => X j * t.Mx v j) + sumN t.n fun j => X j * t.Mx X j := by
    rw [← sumN_sub, ← sumN_sub, ← sumN_add]
    refine sumN_congr fun j _ => ?_
    rw [Tk.Mx_sub]
    grind
  rw [h6, Tk.Mx_sym ok (X := X) (Y := v)] at h5
  rw [h3, h4]
  rw [h2] at h1
  generalize (sumN t.n fun j => v j * t.Mx v j) = a at *
  generalize (sumN t.n fun j => v j * t.Mx X j) = b at *
  generalize (sumN t.n fun j => X j * t.Mx X j) = c at *
  generalize (sumN t.n fun j => v j * t.cost s j) = d at *
  grind
theorem frD_inv {W : Nat} (hW : 0 < W) : frD (Rat.divInt 1 (W : Int)) = .tuple [.int 1, .int (W : Int)] := by
  rw [fr_parts (by omega)]
  have e1 : Int.gcd 1 (W : Int) = 1 := by simp
  rw [e1, Int.sign_eq_one_of_pos (by omega)]
  simp
theorem atI_last {α : Type} {l : List α} {x : α} : L2.atI (l ++ [x]) (-1) = some x := by
  unfold L2.atI ixN
  rw [if_neg (by decide), if_pos (by simp; omega)]
  have e : ((-1 : Int) + ((l ++ [x]).length : Nat)).toNat = l.length := by simp; omega
  show (l ++ [x])[((-1 : Int) + ((l ++ [x]).length : Nat)).toNat]? = some x
  rw [e]
  simp
theorem filter_nil {n : Nat} {P : Nat → Bool} : ((List.range n).filter P).isEmpty = true ↔ ∀ i, i < n → P i = false := by
  rw [List.isEmpty_iff, List.filter_eq_nil_iff]
  constructor
  · intro h i hi
    have := h i (List.mem_range.mpr hi)
    simpa using this
  · intro h i hi
    rw [h i (List.mem_range.mp hi)]
    simp
/-- the list of what is below nought, against the empty list -/
theorem neg_list {n : Nat} {f : Nat → Rat} : ∃ β, dEq (.list (((List.range n).filter fun i => decide (f i < 0)).map fun i => frD (f i))) (.list []) = some (.bool β) ∧ dNe (.list (((List.range n).filter fun i => decide (f i < 0)).map fun i => frD (f i))) (.list []) = some (.bool (!β)) ∧ (β = true ↔ ∀ i, i < n → 0 ≤ f i) := by
  have hs : ∀ d ∈ (((List.range n).filter fun i => decide (f i < 0)).map fun i => frD (f i)), Sh 1 d := fun d hd => by
    obtain ⟨i, _, rfl⟩ := List.mem_map.mp hd
    exact sh_frD _
  refine ⟨_, d_eqNil hs (by decide), d_neNil hs (by decide), ?_⟩
  rw [List.isEmpty_map, filter_nil]
  constructor
  · intro h i hi
    have := h i hi
    exact Rat.not_lt.mp (of_decide_eq_false this)
  · intro h i hi
    exact decide_eq_false (Rat.not_lt.mpr (h i hi))
end
end PX

namespace PU
open PySem L2 DL PG PX
def OkT : Oc → Prop := fun oc => ∃ w', oc = .ret (.bool true) w'
theorem okT {w : DL.Row} : wp (some (.ret (.bool true) w)) OkT := ⟨_, rfl, _, rfl⟩
/-- a drawn list of fractions -/
theorem frs_ok {vs : List Nat} {fg : D → Ev → Option Ev} {fe : MM D} {c : Nat → D} {n : Nat} {sl : List Sl} {w : DL.Row} (hw : RowOk w)
    (h : ∀ i w, i < n → RowOk w → ∃ (ρ1 : Ev) (k : Int) (m : Nat) (w' : DL.Row), fg (c i) (Ev.wipe ⟨w, sl⟩ vs) = some ρ1 ∧ ρ1.row = w ∧ RowOk w' ∧ k.natAbs ≤ 10 ∧ m ≤ 10 ∧ fe ρ1 = some (frD (Rat.divInt k (1 + (m : Int))), w')) :
    ∃ (f : Nat → Rat) (w' : DL.Row), lcGo vs fg (mRet true) fe (vecF n c) ⟨w, sl⟩ = some (vecF n fun i => frD (f i), w') ∧ RowOk w' ∧ ∀ i, i < n → Sz 10 (f i) := by
  refine lcGo_draw RowOk (fun _ q => Sz 10 q) frD hw fun i w hi hw => ?_
  obtain ⟨ρ1, k, m, w', h1, h2, h3, h4, h5, h6⟩ := h i w hi hw
  have h0 : (1 : Int) + (m : Int) ≠ 0 := by omega
  have e1024 : (2 : Nat) ^ 10 = 1024 := rfl
  refine ⟨ρ1, Rat.divInt k (1 + (m : Int)), w', h1, by rw [e_ret, h2], ?_, h3, Sz.divInt (by omega) (by omega) h0⟩
  have : ρ1.wr w = ρ1 := by rw [← h2]; rfl
  rw [this, h6]
structure FreeJ (t : Tk) (s : Rat) (w : Nat → Rat) (i W : Nat) : Prop where
  pos : 0 < W
  lt : W < 2 ^ (1 + i * 212)
  dvd : ∀ j, j < i → (t.free s w j).den ∣ W
theorem FreeJ.succ {t : Tk} {s : Rat} {w : Nat → Rat} {i W : Nat} (h : FreeJ t s w i W) (hz : Sz 212 (t.free s w i)) : FreeJ t s w (i + 1) (W * (t.free s w i).den) := by
  refine ⟨Nat.mul_pos h.pos (t.free s w i).den_pos, ?_, fun j hj => ?_⟩
  · have := pow_lt_mul h.lt hz.2
    rw [show 1 + (i + 1) * 212 = 1 + i * 212 + 212 by omega]
    exact this
  · by_cases e : j = i
    · subst e
      exact Nat.dvd_mul_left _ _
    · exact Nat.dvd_trans (h.dvd j (by omega)) (Nat.dvd_mul_right _ _)
def FJ (t : Tk) (s : Rat) (v w : Nat → Rat) (P : D) (r : DL.Row) (i : Nat) (ρ : Ev) : Prop := ∃ (W : Nat) (s12 s13 : Sl), FreeJ t s w i W ∧
  ρ = ⟨r, [.no, .row, .s t.dat, .s (frD s), .s (.int t.n), .s (.int t.h), .s (vT t.n v), .s (vL t.h (t.gap s v)), .s (vT t.h w), .s P, .o (vecF i fun j => frD (t.free s w j)), .s (.int (W : Int)), s12, s13, .no, .no, .no, .no, .no, .no]⟩
def DJ (t : Tk) (s : Rat) (v w : Nat → Rat) (P : D) (r : DL.Row) (W : Nat) (Y : Nat → Rat) (s13 : Sl) (q : Nat → Rat) (i : Nat) (ρ : Ev) : Prop := ∃ (s12 s16 : Sl),
  ρ = ⟨r, [.no, .row, .s t.dat, .s (frD s), .s (.int t.n), .s (.int t.h), .s (vT t.n v), .s (vL t.h (t.gap s v)), .s (vT t.h w), .s P, .o (vecF t.n fun j => frD (t.free s w j)), .s (.int (W : Int)), s12, s13, .s (vL t.n Y), .s (frD (q i)), s16, .no, .no, .no]⟩
/-- a fraction times a multiple of its lower part -/
theorem scale {q : Rat} {W : Nat} (hW : 0 < W) (hd : q.den ∣ W) : ((q.num * ((W / q.den : Nat) : Int) : Int) : Rat) * Rat.divInt 1 (W : Int) = q := by
  obtain ⟨k, rfl⟩ := hd
  rw [Nat.mul_div_cancel_left _ q.den_pos]
  have hk : 0 < k := by
    rcases Nat.eq_zero_or_pos k with z | z
    · subst z; simp at hW
    · exact z
  rw [Rat.divInt_eq_div]
  have e1 : (((q.den * k : Nat) : Int) : Rat) = (q.den : Rat) * (k : Rat) := by
    rw [Rat.intCast_natCast, Rat.natCast_mul]
  have e2 : ((q.num * (k : Int) : Int) : Rat) = (q.num : Rat) * (k : Rat) := by
    rw [Rat.intCast_mul, Rat.intCast_natCast]
  rw [e1, e2]
  have e3 : q = (q.num : Rat) / (q.den : Rat) := by
    have := Rat.num_divInt_den q
    rw [Rat.divInt_eq_div, Rat.intCast_natCast] at this
    exact this.symm
  have hk' : (k : Rat) ≠ 0 := by
    intro z
    have : k = 0 := by exact_mod_cast z
    omega
  have hd' : (q.den : Rat) ≠ 0 := by
    intro z
    have : q.den = 0 := by exact_mod_cast z
    exact q.den_nz this
  have i1 := Rat.mul_inv_cancel _ hk'
  have i2 := Rat.mul_inv_cancel _ hd'
  conv => rhs; rw [e3]
  rw [Rat.div_def, Rat.div_def, Rat.inv_mul_rev]
  have : ((1 : Int) : Rat) = 1 := rfl
  rw [this]
  generalize (k : Rat) = a at *
  generalize (q.den : Rat) = b at *
  generalize (q.num : Rat) = c at *
  grind
theorem law_true (ns : List Int) (h : ns.length ≤ 63) : ∃ w', g_law (ev0 20 ns) = some (.ret (.bool true) w') := by
  suffices hs : wp (g_law (ev0 20 ns)) OkT by
    obtain ⟨oc, e, w', rfl⟩ := hs
    exact ⟨w', e⟩
  obtain ⟨_, w1, e1, hw1, t, rfl, dr⟩ := F_law_task_ok (cols := 3) (rows := 4) (z := 3) (rowOk0 h) (by decide) (by decide) (by decide) (by decide)
  have e1' : F_law_task [.row, .s (.int 3), .s (.int 4), .s (.int 3)] (ns, 0, 5800, 0) = some (t.dat, w1) := e1
  obtain ⟨s, w2, e2, hw2, hs⟩ := F_law_share_ok (z := 6) (l := 4) hw1 (by decide) (by decide) (by decide)
  have e2' : F_law_share [.row, .s (.int 6), .s (.int 4)] w1 = some (frD s, w2) := e2
  have ok := dr.ok
  have hn := ok.n4
  have hh := ok.h8
  unfold g_law ev0
  simp [e1', e2', d_range (show t.n ≤ 1000000 by omega), lst_its (show t.n ≤ 1000000 by omega)]
  obtain ⟨v, w3, e3, hw3, hv⟩ := frs_ok (vs := [12]) (fg := gtName 12) (fe := (mBind (mCons (mCallG F_law_number (mConsRow 1 (mConsS (mRet (.int 6)) (mRet [])))) (mCons (mOp dAddI (mRet (.int 1)) (mCallG F_law_taken (mConsRow 1 (mConsS (mRet (.int 3)) (mRet []))))) (mRet []))) fun ds => mO (F_law_fr (ds ++ [])))) (n := t.n) (c := fun i => .int (i : Nat))
    (sl := [.no, .row, .s t.dat, .s (frD s), .s (.int t.n), .s (.int t.h), .no, .no, .no, .no, .no, .no, .no, .no, .no, .no, .no, .no, .no, .no]) hw2 (fun i w hi hw => by
      obtain ⟨k, w', a1, a2, a3⟩ := number_ok (z := 6) hw (by decide)
      have a1' : F_law_number [.row, .s (.int 6)] w = some (.int k, w') := a1
      obtain ⟨m, w'', b1, b2, b3⟩ := taken_ok (m := 3) a2 (by decide)
      refine ⟨⟨w, [.no, .row, .s t.dat, .s (frD s), .s (.int t.n), .s (.int t.h), .no, .no, .no, .no, .no, .no, .s (.int i), .no, .no, .no, .no, .no, .no, .no]⟩, k, m, w'', ?_, rfl, b2, by omega, by omega, ?_⟩
      · simp [Ev.wipe, wipeS]
      · have h0 : (1 : Int) + (m : Int) ≠ 0 := by omega
        simp [a1', b1, F_law_fr_eq h0])
  simp at e3
  rw [e3]
  simp
  rw [show (PyData.tuple (vecF t.n fun i => frD (v i)) : D) = vT t.n v from rfl]
  have a1 := F_worth_eq ok hs (by decide) hv (by decide)
  have a2 := F_law_worth_eq ok hs (by decide) (its_vT (n := t.n) (v := v)) hv (by decide)
  have a3 := F_law_gaps_eq ok hs (by decide) (its_vT (n := t.n) (v := v)) hv (by decide)
  obtain ⟨dk, a4, a5⟩ := F_is_kept_eq ok hs (by decide) hv (by decide)
  simp [a1, a2, alike_frD, a3, a4, lst_its (show t.h ≤ 1000000 by omega)]
  obtain ⟨β, n1, n2, n3⟩ := neg_list (n := t.h) (f := t.gap s v)
  rw [lcGo_filter (φ := fun i => frD (t.gap s v i)) (t := fun i => decide (t.gap s v i < 0))]
  · simp [n1, tells_same a5 ⟨β, rfl, n3⟩, d_range (show t.h ≤ 1000000 by omega), lst_its (show t.h ≤ 1000000 by omega)]
    obtain ⟨w, w4, e4, hw4, hw⟩ := frs_ok (vs := [12]) (fg := gtName 12) (fe := (mBind (mCons (mOp dSub (mCallG F_law_taken (mConsRow 1 (mConsS (mRet (.int 5)) (mRet [])))) (mRet (.int 1))) (mCons (mOp dAddI (mRet (.int 1)) (mCallG F_law_taken (mConsRow 1 (mConsS (mRet (.int 2)) (mRet []))))) (mRet []))) fun ds => mO (F_law_fr (ds ++ [])))) (n := t.h) (c := fun i => .int (i : Nat))
      (sl := [.no, .row, .s t.dat, .s (frD s), .s (.int t.n), .s (.int t.h), .s (vT t.n v), .s (vL t.h (t.gap s v)), .no, .no, .no, .no, .no, .no, .no, .no, .no, .no, .no, .no]) hw3 (fun i w hi hw => by
        obtain ⟨k, w', b1, b2, b3⟩ := taken_ok (m := 5) hw (by decide)
        obtain ⟨m, w'', c1, c2, c3⟩ := taken_ok (m := 2) b2 (by decide)
        refine ⟨⟨w, [.no, .row, .s t.dat, .s (frD s), .s (.int t.n), .s (.int t.h), .s (vT t.n v), .s (vL t.h (t.gap s v)), .no, .no, .no, .no, .s (.int i), .no, .no, .no, .no, .no, .no, .no]⟩, (k : Int) - 1, m, w'', ?_, rfl, c2, by omega, by omega, ?_⟩
        · simp [Ev.wipe, wipeS]
        · have h0 : (1 : Int) + (m : Int) ≠ 0 := by omega
          simp [b1, c1, F_law_fr_eq h0])
    simp at e4
    rw [e4]
    simp
    rw [show (PyData.tuple (vecF t.h fun i => frD (w i)) : D) = vT t.h w from rfl]
    obtain ⟨d1, s1, s2⟩ := F_shows_eq ok hs (by decide) hv (by decide) hw
    obtain ⟨d2, s3, s4⟩ := F_law_shows_ok ok hs (by decide) (its_vT (n := t.n) (v := v)) hv (by decide) (its_vT (n := t.h) (v := w)) hw
    obtain ⟨d3, s5, s6⟩ := F_bars_ok ok hs (by decide) hw (by decide)
    obtain ⟨d4, s7, s8⟩ := F_law_bars_ok ok hs (by decide) (its_vT (n := t.h) (v := w)) hw (by decide)
    obtain ⟨d5, p1, p2⟩ := F_promise_ok ok hs (by decide) hw (by decide)
    obtain ⟨γ, m1, m2, m3⟩ := neg_list (n := t.h) (f := w)
    simp [s1, s3, tells_same s2 s4, s5, s7, tells_same s6 s8, p1, lst_its (show t.h ≤ 1000000 by omega)]
    rw [lcGo_filter (φ := fun i => frD (w i)) (t := fun i => decide (w i < 0))]
    · simp [m2]
      rcases p2 with ⟨⟨i, hi, hneg⟩, rfl⟩ | ⟨hpos, X, hX, rfl⟩
      · have : γ = false := by
          cases γ with
          | false => rfl
          | true => exact absurd hneg (Rat.not_lt.mpr (m3.mp rfl i hi))
        subst this
        simp [dIsN]
        exact okT
      · obtain rfl : γ = true := m3.mpr hpos
        simp [d_range (show t.n ≤ 1000000 by omega)]
        have zf : ∀ j, j < t.n → Sz 212 (t.free s w j) := fun j hj => ((Tk.Aw_sz ok hw (Nat.le_refl _) hj).sub (Tk.cost_sz ok hs hj)).mono (by omega)
        refine wp_thn (FJ t s v w (frD (- sumN t.n (fun j => t.free s w j * X j / 2) + t.lim s w)) w4 t.n) ?_ ?_
        · refine wp_for (FJ t s v w (frD (- sumN t.n (fun j => t.free s w j * X j / 2) + t.lim s w)) w4) ⟨1, _, _, ⟨by decide, by decide, fun j hj => absurd hj (Nat.not_lt_zero _)⟩, rfl⟩ ?_ (fun ρ hJ => hJ)
          rintro i ρ hi ⟨W, s12, s13, FF, rfl⟩
          generalize frD (- sumN t.n (fun j => t.free s w j * X j / 2) + t.lim s w) = PR
          have e1 := F_law_times_eq (sz10 (ok.d i hi)) hs (by omega)
          have e2 := F_law_plus_eq (sz10 (ok.c i hi)) ((sz10 (ok.d i hi)).mul hs) (by omega)
          rw [frD_int] at e1 e2
          have e5 : F_law_plus [.tuple [.int (t.c i), .int 1], frD ((t.d i : Rat) * s)] = some (frD (t.cost s i)) := e2
          have e6 := F_law_col ok hi (its_vT (n := t.h) (v := w)) hw (by decide)
          have e7 := F_law_less_eq (Tk.Aw_sz ok hw (Nat.le_refl _) hi) (Tk.cost_sz ok hs hi) (by omega)
          rw [show (sumN t.h fun k => (t.A k i : Rat) * w k) - t.cost s i = t.free s w i from rfl] at e7
          have e7' : F_law_less [frD (t.Aw w i), frD (t.cost s i)] = some (frD (t.free s w i)) := e7
          have e8 : apO (.o (vecF i fun j => frD (t.free s w j))) (frD (t.free s w i)) = some (.o (vecF (i + 1) fun j => frD (t.free s w j))) := by
            rw [ap_o (by simp; omega), vecF_succ]
          have e9 : L2.atI (vecF (i + 1) fun j => frD (t.free s w j)) (-1) = some (frD (t.free s w i)) := by
            rw [vecF_succ, L2.atI_last]
          have hi212 : i * 212 ≤ 4 * 212 := Nat.mul_le_mul_right _ (by omega)
          have hm : mulOk (W : Int) ((t.free s w i).den : Int) = true := mulOk_of (i := (W : Int)) FF.lt (zf i hi).nd (by omega)
          simp [ix_its (its_iT (v := t.d)) hi, ix_its (its_iT (v := t.c)) hi, e1, e5, lst_its (show t.h ≤ 1000000 by omega)]
          rw [lcGo_vec (φ := fun k => .int (t.A k i))]
          · simp [e6, e7', e8, e9, hm]
            exact wp_some ⟨W * (t.free s w i).den, .s (.int i), .s (frD (t.cost s i)), FF.succ (zf i hi), by simp⟩
          · intro k hk
            refine ⟨⟨w4, [.no, .row, .s t.dat, .s (frD s), .s (.int t.n), .s (.int t.h), .s (vT t.n v), .s (vL t.h (t.gap s v)), .s (vT t.h w), .s PR, .o (vecF i fun j => frD (t.free s w j)), .s (.int (W : Int)), .s (.int i), .s (frD (t.cost s i)), .no, .no, .no, .no, .no, .s (t.rowD k)]⟩, ?_, rfl, ?_⟩
            · simp [Ev.wipe, wipeS]
            · simp [ix_its (its_iT (v := t.A k)) hi]
        · rintro ρ ⟨W, s12, s13, FF, rfl⟩
          have hW := FF.lt
          have h212 : t.n * 212 ≤ 4 * 212 := Nat.mul_le_mul_right _ (by omega)
          have hW2 : W < 2 ^ 850 := by
            have := Nat.pow_le_pow_right (n := 2) (by decide) (show 1 + t.n * 212 ≤ 850 by omega)
            omega
          obtain ⟨PR, hPR⟩ : ∃ PR, PR = frD (- sumN t.n (fun j => t.free s w j * X j / 2) + t.lim s w) := ⟨_, rfl⟩
          rw [← hPR]
          obtain ⟨Q, hQ⟩ : ∃ Q : Nat → Nat, ∀ i, Q i = W / (t.free s w i).den := ⟨fun i => _, fun _ => rfl⟩
          have hq : ∀ i, Q i < 2 ^ 850 := fun i => by
            rw [hQ]
            have := Nat.div_le_self W (t.free s w i).den
            omega
          simp [lst_its (show t.n ≤ 1000000 by omega)]
          rw [lcGo_vec (φ := fun i => iL t.n (t.M i))]
          · simp [lst_its (show t.n ≤ 1000000 by omega)]
            rw [lcGo_vec (φ := fun i => .int ((t.free s w i).num * (Q i : Int)))]
            · skip
              obtain ⟨d6, g1, g2⟩ := F_law_solved_ok (n := t.n) (b := 1070) (lot := .list (vecF t.n fun i => iL t.n (t.M i))) (rights := .list (vecF t.n fun i => .int ((t.free s w i).num * (Q i : Int)))) (r := fun i => iL t.n (t.M i)) (R := t.M) (S := fun i => (t.free s w i).num * (Q i : Int)) rfl (fun i _ => rfl) rfl (by omega) (by decide)
                (fun i j hi hj => by
                  have h1 := pow10 (ok.M i j hi hj)
                  have := Nat.pow_le_pow_right (n := 2) (by decide) (show 10 ≤ 1070 by decide)
                  omega)
                (fun i hi => by
                  show ((t.free s w i).num * (Q i : Int)).natAbs < 2 ^ 1070
                  rw [Int.natAbs_mul, Int.natAbs_natCast]
                  have h1 := pow_lt_mul (zf i hi).1 (hq i)
                  have := Nat.pow_le_pow_right (n := 2) (by decide) (show 212 + 850 ≤ 1070 by decide)
                  omega)
                (by have := bd4 (b := 1070) hn; omega)
              rcases g2 with ⟨_, hz⟩ | ⟨X0, rfl, g3, g4⟩
              · exact absurd hz (Tk.no_null ok)
              · have g4' : ∀ i, i < t.n → Sz 274005 (X0 i) := fun i hi => (g4 i hi).mono (bd4 hn)
                obtain ⟨c, hc⟩ : ∃ c : Rat, c = Rat.divInt 1 (W : Int) := ⟨_, rfl⟩
                have zc : Sz 850 c := by rw [hc]; exact Sz.divInt (by decide) hW2 (by have := FF.pos; omega)
                have hcD : frD c = .tuple [.int 1, .int (W : Int)] := by rw [hc]; exact frD_inv FF.pos
                simp [g1, lst_its (show t.n ≤ 1000000 by omega)]
                rw [lcGo_vec (φ := fun i => frD (X0 i * c))]
                · simp
                  rw [show (PyData.list (vecF t.n fun i => frD (X0 i * c)) : D) = vL t.n (fun i => X0 i * c) from rfl]
                  have zY : ∀ i, i < t.n → Sz 274855 ((fun i => X0 i * c) i) := fun i hi => ((g4' i hi).mul zc).mono (by omega)
                  have hY : ∀ i, i < t.n → t.Mx (fun i => X0 i * c) i = t.free s w i := fun i hi => by
                    have h1 := (g3 X0).mpr (fun _ _ => rfl) i hi
                    have h2 : t.Mx (fun i => X0 i * c) i = (sumN t.n fun j => (t.M i j : Rat) * X0 j) * c := by
                      rw [← sumN_mul_right]
                      exact sumN_congr fun j _ => (Rat.mul_assoc _ _ _).symm
                    rw [h2, h1]
                    show (((t.free s w i).num * (Q i : Int) : Int) : Rat) * c = _
                    rw [hQ, hc]
                    exact scale FF.pos (FF.dvd i hi)
                  generalize (fun i => X0 i * c) = Y at *
                  have hXY := Tk.Mx_uni ok (fun i hi => (hX i hi).trans (hY i hi).symm)
                  have hsum : (sumN t.n fun j => t.free s w j * X j / 2) = sumN t.n fun j => t.free s w j * Y j / 2 := sumN_congr fun j hj => by rw [hXY j hj]
                  rw [hsum] at hPR
                  have zY' : ∀ i, i < t.n → Sz 274855 (Y i) := zY
                  have zt : ∀ j, j < t.n → Sz 275069 (t.free s w j * Y j / 2) := fun j hj => (((zf j hj).mul (zY' j hj)).div sz2 two_ne).mono (by omega)
                  have zsum : ∀ i, i ≤ t.n → Sz 1100281 (sumN i fun j => t.free s w j * Y j / 2) := fun i hi => (sz_sum fun j hj => zt j (by omega)).mono (by
                    have : i * (275069 + 1) ≤ 4 * (275069 + 1) := Nat.mul_le_mul_right _ (by omega)
                    omega)
                  have zr : ∀ j, j < t.h → Sz 41 (t.right s j * w j) := fun j hj => ((Tk.right_sz ok hs hj).mul (hw j hj)).mono (by omega)
                  have zrs : ∀ i, i ≤ t.h → Sz 337 (sumN i fun j => t.right s j * w j) := fun i hi => (sz_sum fun j hj => zr j (by omega)).mono (by
                    have : i * (41 + 1) ≤ 8 * (41 + 1) := Nat.mul_le_mul_right _ (by omega)
                    omega)
                  simp [d_range (show t.n ≤ 1000000 by omega)]
                  refine wp_thn (DJ t s v w PR w4 W Y s13 (fun i => - sumN i fun j => t.free s w j * Y j / 2) t.n) ?_ ?_
                  · refine wp_for (DJ t s v w PR w4 W Y s13 (fun i => - sumN i fun j => t.free s w j * Y j / 2)) ⟨_, _, rfl⟩ ?_ (fun ρ hJ => hJ)
                    rintro i ρ hi ⟨s12, s16, rfl⟩
                    have f1 := F_law_times_eq (zf i hi) (zY' i hi) (by omega)
                    have f2 := F_law_times_eq szhalf ((zf i hi).mul (zY' i hi)) (by omega)
                    have eh : ∀ a : Rat, 1 / 2 * a = a / 2 := fun a => by grind
                    rw [eh, frD_half] at f2
                    have f3 := F_law_less_eq (zsum i (by omega)).neg (zt i hi) (by omega)
                    have f4 : (- sumN i fun j => t.free s w j * Y j / 2) - t.free s w i * Y i / 2 = - sumN (i + 1) fun j => t.free s w j * Y j / 2 := by
                      show _ = - ((sumN i fun j => t.free s w j * Y j / 2) + t.free s w i * Y i / 2)
                      grind
                    rw [f4] at f3
                    simp [atI_vec hi, vL_ix hi, f1, f2, f3]
                    exact wp_some ⟨_, _, rfl⟩
                  · rintro ρ ⟨s12, s16, rfl⟩
                    simp [d_range (show t.h ≤ 1000000 by omega)]
                    refine wp_thn (DJ t s v w PR w4 W Y s13 (fun i => (- sumN t.n fun j => t.free s w j * Y j / 2) + sumN i fun j => t.right s j * w j) t.h) ?_ ?_
                    · refine wp_for (DJ t s v w PR w4 W Y s13 (fun i => (- sumN t.n fun j => t.free s w j * Y j / 2) + sumN i fun j => t.right s j * w j)) ⟨s12, s16, by dsimp only; rw [show (sumN 0 fun j => t.right s j * w j) = 0 from rfl, Rat.add_zero]⟩ ?_ (fun ρ hJ => hJ)
                      rintro i ρ hi ⟨s12, s16, rfl⟩
                      have e1 := F_law_times_eq (sz10 (ok.e i hi)) hs (by omega)
                      have e2 := F_law_plus_eq (sz10 (ok.b i hi)) ((sz10 (ok.e i hi)).mul hs) (by omega)
                      rw [frD_int] at e1 e2
                      have e5 : F_law_plus [.tuple [.int (t.b i), .int 1], frD ((t.e i : Rat) * s)] = some (frD (t.right s i)) := e2
                      have f1 := F_law_times_eq (Tk.right_sz ok hs hi) (hw i hi) (by omega)
                      have f2 := F_law_plus_eq ((zsum t.n (Nat.le_refl _)).neg.add (zrs i (by omega))) (zr i hi) (by omega)
                      have f4 : ((- sumN t.n fun j => t.free s w j * Y j / 2) + sumN i fun j => t.right s j * w j) + t.right s i * w i = (- sumN t.n fun j => t.free s w j * Y j / 2) + sumN (i + 1) fun j => t.right s j * w j := by
                        show _ = _ + ((sumN i fun j => t.right s j * w j) + t.right s i * w i)
                        grind
                      rw [f4] at f2
                      simp [ix_its its_rows hi, ix_its (its_vT (n := t.h) (v := w)) hi, e1, e5, f1, f2]
                      exact wp_some ⟨_, _, rfl⟩
                    · rintro ρ ⟨s12, s16, rfl⟩
                      have hfin : PR = frD ((- sumN t.n fun j => t.free s w j * Y j / 2) + sumN t.h fun j => t.right s j * w j) := hPR
                      have zP : Sz 1100619 ((- sumN t.n fun j => t.free s w j * Y j / 2) + sumN t.h fun j => t.right s j * w j) := ((zsum t.n (Nat.le_refl _)).neg.add (zrs t.h (Nat.le_refl _))).mono (by omega)
                      have zW : Sz 2000 (t.worth s v) := (sz_sum (n := t.n) (b := 225) fun j hj => ((hv j hj).mul (((Tk.Mx_sz ok hv hj).div sz2 two_ne).add (Tk.cost_sz ok hs hj))).mono (by omega)).mono (by
                        have : t.n * (225 + 1) ≤ 4 * (225 + 1) := Nat.mul_le_mul_right _ hn
                        omega)
                      have bl := F_law_below_eq zW zP (by omega)
                      rw [← hfin] at bl
                      have al : F_law_alike [PR, PR] = some (.bool true) := by rw [hfin]; exact alike_frD
                      rw [← hfin]
                      simp [al, lst_its (show t.h ≤ 1000000 by omega)]
                      rw [lcGo_filter (φ := fun i => frD (t.gap s v i)) (t := fun i => decide (t.gap s v i < 0))]
                      · simp [n2]
                        cases β with
                        | false =>
                          simp
                          exact okT
                        | true =>
                          have hw' := Tk.weak ok (n3.mp rfl) hpos hY
                          have hnl : ¬ t.worth s v < (- sumN t.n fun j => t.free s w j * Y j / 2) + sumN t.h fun j => t.right s j * w j := Rat.not_lt.mpr hw'
                          simp [a2, bl, hnl]
                          exact okT
                      · intro i hi
                        refine ⟨⟨w4, [.no, .row, .s t.dat, .s (frD s), .s (.int t.n), .s (.int t.h), .s (vT t.n v), .s (vL t.h (t.gap s v)), .s (vT t.h w), .s PR, .o (vecF t.n fun j => frD (t.free s w j)), .s (.int (W : Int)), s12, s13, .s (vL t.n Y), .s PR, s16, .s (frD (t.gap s v i)), .no, .no]⟩, ?_, ?_, ?_⟩
                        · simp [Ev.wipe, wipeS]
                        · simp
                        · intro _
                          simp
                · intro i hi
                  have f2 := F_law_times_eq (g4' i hi) zc (by omega)
                  rw [hcD] at f2
                  refine ⟨⟨w4, [.no, .row, .s t.dat, .s (frD s), .s (.int t.n), .s (.int t.h), .s (vT t.n v), .s (vL t.h (t.gap s v)), .s (vT t.h w), .s PR, .o (vecF t.n fun j => frD (t.free s w j)), .s (.int (W : Int)), s12, s13, .s (vL t.n X0), .no, .no, .no, .s (frD (X0 i)), .no]⟩, ?_, rfl, ?_⟩
                  · simp [Ev.wipe, wipeS]
                  · simp [f2]
            · intro i hi
              have hd0 : ((t.free s w i).den : Int) ≠ 0 := den_ne _
              have hfd : (W : Int).fdiv ((t.free s w i).den : Int) = (Q i : Int) := by
                rw [Int.fdiv_eq_ediv_of_nonneg _ (by omega), hQ]
                rfl
              have hm : mulOk (t.free s w i).num (Q i : Int) = true := mulOk_of (j := (Q i : Int)) (zf i hi).1 (n := 850) (by
                rw [Int.natAbs_natCast]
                exact hq i) (by decide)
              refine ⟨⟨w4, [.no, .row, .s t.dat, .s (frD s), .s (.int t.n), .s (.int t.h), .s (vT t.n v), .s (vL t.h (t.gap s v)), .s (vT t.h w), .s PR, .o (vecF t.n fun j => frD (t.free s w j)), .s (.int (W : Int)), s12, s13, .no, .no, .no, .no, .s (frD (t.free s w i)), .no]⟩, ?_, rfl, ?_⟩
              · simp [Ev.wipe, wipeS]
              · simp [e_op, d_div hd0, hfd, d_mul hm]
          · intro i hi
            refine ⟨⟨w4, [.no, .row, .s t.dat, .s (frD s), .s (.int t.n), .s (.int t.h), .s (vT t.n v), .s (vL t.h (t.gap s v)), .s (vT t.h w), .s PR, .o (vecF t.n fun j => frD (t.free s w j)), .s (.int (W : Int)), s12, s13, .no, .no, .no, .no, .no, .s (iT t.n (t.M i))]⟩, ?_, rfl, ?_⟩
            · simp [Ev.wipe, wipeS]
            · simp
              rfl
    · intro i hi
      refine ⟨⟨w4, [.no, .row, .s t.dat, .s (frD s), .s (.int t.n), .s (.int t.h), .s (vT t.n v), .s (vL t.h (t.gap s v)), .s (vT t.h w), .s d5, .no, .no, .no, .no, .no, .no, .no, .no, .s (frD (w i)), .no]⟩, ?_, ?_, ?_⟩
      · simp [Ev.wipe, wipeS]
      · simp
      · intro _
        simp
  · intro i hi
    refine ⟨⟨w3, [.no, .row, .s t.dat, .s (frD s), .s (.int t.n), .s (.int t.h), .s (vT t.n v), .s (vL t.h (t.gap s v)), .no, .no, .no, .no, .no, .no, .no, .no, .no, .s (frD (t.gap s v i)), .no, .no]⟩, ?_, ?_, ?_⟩
    · simp [Ev.wipe, wipeS]
    · simp
    · intro _
      simp
end PU


namespace WK
open PG
open PySem PySem.Spec PyProof.Rows L2 DL
def top (i : Nat) : Stmt := PySem.Challenge.pw_squarepaths_k00_whole_worths.main.body.getD i (.Pass ⟨0, 0, 0, 0⟩)
abbrev s_is_int : Stmt := top 7
abbrev N_is_int : List Str := ["value"]
theorem sc_is_int : FnScope N_is_int ["value"] (defScope s_is_int) := ⟨rfl, rfl, rfl, by decide +kernel, rfl, by decide +kernel, by decide +kernel⟩
abbrev s_common : Stmt := top 8
abbrev N_common : List Str := ["one", "other"]
theorem sc_common : FnScope N_common ["one", "other"] (defScope s_common) := ⟨rfl, rfl, rfl, by decide +kernel, rfl, by decide +kernel, by decide +kernel⟩
abbrev s_fraction : Stmt := top 9
abbrev N_fraction : List Str := ["top", "low", "part"]
theorem sc_fraction : FnScope N_fraction ["top", "low"] (defScope s_fraction) := ⟨rfl, rfl, rfl, by decide +kernel, rfl, by decide +kernel, by decide +kernel⟩
abbrev s_is_fraction : Stmt := top 10
abbrev N_is_fraction : List Str := ["value"]
theorem sc_is_fraction : FnScope N_is_fraction ["value"] (defScope s_is_fraction) := ⟨rfl, rfl, rfl, by decide +kernel, rfl, by decide +kernel, by decide +kernel⟩
abbrev s_plus : Stmt := top 11
abbrev N_plus : List Str := ["one", "other"]
theorem sc_plus : FnScope N_plus ["one", "other"] (defScope s_plus) := ⟨rfl, rfl, rfl, by decide +kernel, rfl, by decide +kernel, by decide +kernel⟩
abbrev s_less : Stmt := top 12
abbrev N_less : List Str := ["one", "other"]
theorem sc_less : FnScope N_less ["one", "other"] (defScope s_less) := ⟨rfl, rfl, rfl, by decide +kernel, rfl, by decide +kernel, by decide +kernel⟩
abbrev s_times : Stmt := top 13
abbrev N_times : List Str := ["one", "other"]
theorem sc_times : FnScope N_times ["one", "other"] (defScope s_times) := ⟨rfl, rfl, rfl, by decide +kernel, rfl, by decide +kernel, by decide +kernel⟩
abbrev s_over : Stmt := top 14
abbrev N_over : List Str := ["one", "other"]
theorem sc_over : FnScope N_over ["one", "other"] (defScope s_over) := ⟨rfl, rfl, rfl, by decide +kernel, rfl, by decide +kernel, by decide +kernel⟩
abbrev s_added : Stmt := top 15
abbrev N_added : List Str := ["one", "other", "many", "a", "b"]
theorem sc_added : FnScope N_added ["one", "other", "many"] (defScope s_added) := ⟨rfl, rfl, rfl, by decide +kernel, rfl, by decide +kernel, by decide +kernel⟩
abbrev s_inner : Stmt := top 16
abbrev N_inner : List Str := ["numbers", "row", "found", "one", "other"]
theorem sc_inner : FnScope N_inner ["numbers", "row"] (defScope s_inner) := ⟨rfl, rfl, rfl, by decide +kernel, rfl, by decide +kernel, by decide +kernel⟩
abbrev s_solved : Stmt := top 17
abbrev N_solved : List Str := ["rows", "sides", "many", "table", "at", "some", "lead", "spot", "much", "row", "side", "one", "line"]
theorem sc_solved : FnScope N_solved ["rows", "sides"] (defScope s_solved) := ⟨rfl, rfl, rfl, by decide +kernel, rfl, by decide +kernel, by decide +kernel⟩
abbrev s_is_above : Stmt := top 18
abbrev N_is_above : List Str := ["table", "rows", "at", "spot", "much", "row", "one"]
theorem sc_is_above : FnScope N_is_above ["table"] (defScope s_is_above) := ⟨rfl, rfl, rfl, by decide +kernel, rfl, by decide +kernel, by decide +kernel⟩
abbrev s_is_small : Stmt := top 23
abbrev N_is_small : List Str := ["value"]
theorem sc_is_small : FnScope N_is_small ["value"] (defScope s_is_small) := ⟨rfl, rfl, rfl, by decide +kernel, rfl, by decide +kernel, by decide +kernel⟩
abbrev s_is_row : Stmt := top 24
abbrev N_is_row : List Str := ["value", "wide", "one"]
theorem sc_is_row : FnScope N_is_row ["value", "wide"] (defScope s_is_row) := ⟨rfl, rfl, rfl, by decide +kernel, rfl, by decide +kernel, by decide +kernel⟩
abbrev s_need_task : Stmt := top 25
abbrev N_need_task : List Str := ["value", "squares", "costs", "drift", "rows", "wide", "row"]
theorem sc_need_task : FnScope N_need_task ["value"] (defScope s_need_task) := ⟨rfl, rfl, rfl, by decide +kernel, rfl, by decide +kernel, by decide +kernel⟩
abbrev s_is_turned : Stmt := top 26
abbrev N_is_turned : List Str := ["table", "at", "row"]
theorem sc_is_turned : FnScope N_is_turned ["table"] (defScope s_is_turned) := ⟨rfl, rfl, rfl, by decide +kernel, rfl, by decide +kernel, by decide +kernel⟩
abbrev s_is_task_row : Stmt := top 27
abbrev N_is_task_row : List Str := ["value", "wide"]
theorem sc_is_task_row : FnScope N_is_task_row ["value", "wide"] (defScope s_is_task_row) := ⟨rfl, rfl, rfl, by decide +kernel, rfl, by decide +kernel, by decide +kernel⟩
abbrev s_need_share : Stmt := top 28
abbrev N_need_share : List Str := ["value"]
theorem sc_need_share : FnScope N_need_share ["value"] (defScope s_need_share) := ⟨rfl, rfl, rfl, by decide +kernel, rfl, by decide +kernel, by decide +kernel⟩
abbrev s_need_plan : Stmt := top 29
abbrev N_need_plan : List Str := ["value", "many", "one"]
theorem sc_need_plan : FnScope N_need_plan ["value", "many"] (defScope s_need_plan) := ⟨rfl, rfl, rfl, by decide +kernel, rfl, by decide +kernel, by decide +kernel⟩
abbrev s_costs_at : Stmt := top 30
abbrev N_costs_at : List Str := ["task", "share", "cost", "more"]
theorem sc_costs_at : FnScope N_costs_at ["task", "share"] (defScope s_costs_at) := ⟨rfl, rfl, rfl, by decide +kernel, rfl, by decide +kernel, by decide +kernel⟩
abbrev s_rights_at : Stmt := top 31
abbrev N_rights_at : List Str := ["task", "share", "row"]
theorem sc_rights_at : FnScope N_rights_at ["task", "share"] (defScope s_rights_at) := ⟨rfl, rfl, rfl, by decide +kernel, rfl, by decide +kernel, by decide +kernel⟩
abbrev s_slope_of : Stmt := top 32
abbrev N_slope_of : List Str := ["task", "share", "plan", "row"]
theorem sc_slope_of : FnScope N_slope_of ["task", "share", "plan"] (defScope s_slope_of) := ⟨rfl, rfl, rfl, by decide +kernel, rfl, by decide +kernel, by decide +kernel⟩
abbrev s_worth_of : Stmt := top 33
abbrev N_worth_of : List Str := ["task", "share", "plan", "found", "one", "row", "cost"]
theorem sc_worth_of : FnScope N_worth_of ["task", "share", "plan"] (defScope s_worth_of) := ⟨rfl, rfl, rfl, by decide +kernel, rfl, by decide +kernel, by decide +kernel⟩
abbrev s_gaps_of : Stmt := top 34
abbrev N_gaps_of : List Str := ["task", "share", "plan", "row", "right"]
theorem sc_gaps_of : FnScope N_gaps_of ["task", "share", "plan"] (defScope s_gaps_of) := ⟨rfl, rfl, rfl, by decide +kernel, rfl, by decide +kernel, by decide +kernel⟩
abbrev s_keeps : Stmt := top 35
abbrev N_keeps : List Str := ["task", "share", "plan", "gap"]
theorem sc_keeps : FnScope N_keeps ["task", "share", "plan"] (defScope s_keeps) := ⟨rfl, rfl, rfl, by decide +kernel, rfl, by decide +kernel, by decide +kernel⟩
abbrev s_sum_of_rows : Stmt := top 36
abbrev N_sum_of_rows : List Str := ["task", "weights", "found", "row", "weight", "one"]
theorem sc_sum_of_rows : FnScope N_sum_of_rows ["task", "weights"] (defScope s_sum_of_rows) := ⟨rfl, rfl, rfl, by decide +kernel, rfl, by decide +kernel, by decide +kernel⟩
abbrev s_shows_of : Stmt := top 37
abbrev N_shows_of : List Str := ["task", "share", "plan", "weights", "gaps", "gap", "weight"]
theorem sc_shows_of : FnScope N_shows_of ["task", "share", "plan", "weights"] (defScope s_shows_of) := ⟨rfl, rfl, rfl, by decide +kernel, rfl, by decide +kernel, by decide +kernel⟩
abbrev s_promise_of : Stmt := top 38
abbrev N_promise_of : List Str := ["task", "share", "weights", "slope", "step", "found", "one", "other", "right", "weight", "row"]
theorem sc_promise_of : FnScope N_promise_of ["task", "share", "weights"] (defScope s_promise_of) := ⟨rfl, rfl, rfl, by decide +kernel, rfl, by decide +kernel, by decide +kernel⟩
abbrev s_need_both : Stmt := top 39
abbrev N_need_both : List Str := ["task", "share"]
theorem sc_need_both : FnScope N_need_both ["task", "share"] (defScope s_need_both) := ⟨rfl, rfl, rfl, by decide +kernel, rfl, by decide +kernel, by decide +kernel⟩
abbrev s_worth : Stmt := top 40
abbrev N_worth : List Str := ["task", "share", "plan"]
theorem sc_worth : FnScope N_worth ["task", "share", "plan"] (defScope s_worth) := ⟨rfl, rfl, rfl, by decide +kernel, rfl, by decide +kernel, by decide +kernel⟩
abbrev s_is_kept : Stmt := top 41
abbrev N_is_kept : List Str := ["task", "share", "plan"]
theorem sc_is_kept : FnScope N_is_kept ["task", "share", "plan"] (defScope s_is_kept) := ⟨rfl, rfl, rfl, by decide +kernel, rfl, by decide +kernel, by decide +kernel⟩
abbrev s_shows : Stmt := top 42
abbrev N_shows : List Str := ["task", "share", "plan", "weights"]
theorem sc_shows : FnScope N_shows ["task", "share", "plan", "weights"] (defScope s_shows) := ⟨rfl, rfl, rfl, by decide +kernel, rfl, by decide +kernel, by decide +kernel⟩
abbrev s_promise : Stmt := top 43
abbrev N_promise : List Str := ["task", "share", "weights", "one"]
theorem sc_promise : FnScope N_promise ["task", "share", "weights"] (defScope s_promise) := ⟨rfl, rfl, rfl, by decide +kernel, rfl, by decide +kernel, by decide +kernel⟩
abbrev s_bars : Stmt := top 44
abbrev N_bars : List Str := ["task", "share", "weights", "found", "right", "weight", "one"]
theorem sc_bars : FnScope N_bars ["task", "share", "weights"] (defScope s_bars) := ⟨rfl, rfl, rfl, by decide +kernel, rfl, by decide +kernel, by decide +kernel⟩
abbrev s_law_taken : Stmt := top 46
abbrev N_law_taken : List Str := ["_law_row", "_law_many", "_law_found", "_law_cell"]
theorem sc_law_taken : FnScope N_law_taken ["_law_row", "_law_many"] (defScope s_law_taken) := ⟨rfl, rfl, rfl, by decide +kernel, rfl, by decide +kernel, by decide +kernel⟩
abbrev s_law_alike : Stmt := top 47
abbrev N_law_alike : List Str := ["_law_found", "_law_due", "_law_k"]
theorem sc_law_alike : FnScope N_law_alike ["_law_found", "_law_due"] (defScope s_law_alike) := ⟨rfl, rfl, rfl, by decide +kernel, rfl, by decide +kernel, by decide +kernel⟩
abbrev s_law_is : Stmt := top 48
abbrev N_law_is : List Str := ["_law_found", "_law_due"]
theorem sc_law_is : FnScope N_law_is ["_law_found", "_law_due"] (defScope s_law_is) := ⟨rfl, rfl, rfl, by decide +kernel, rfl, by decide +kernel, by decide +kernel⟩
abbrev s_law_fr : Stmt := top 49
abbrev N_law_fr : List Str := ["_law_top", "_law_low", "_law_a", "_law_b"]
theorem sc_law_fr : FnScope N_law_fr ["_law_top", "_law_low"] (defScope s_law_fr) := ⟨rfl, rfl, rfl, by decide +kernel, rfl, by decide +kernel, by decide +kernel⟩
abbrev s_law_plus : Stmt := top 50
abbrev N_law_plus : List Str := ["_law_one", "_law_other"]
theorem sc_law_plus : FnScope N_law_plus ["_law_one", "_law_other"] (defScope s_law_plus) := ⟨rfl, rfl, rfl, by decide +kernel, rfl, by decide +kernel, by decide +kernel⟩
abbrev s_law_times : Stmt := top 51
abbrev N_law_times : List Str := ["_law_one", "_law_other"]
theorem sc_law_times : FnScope N_law_times ["_law_one", "_law_other"] (defScope s_law_times) := ⟨rfl, rfl, rfl, by decide +kernel, rfl, by decide +kernel, by decide +kernel⟩
abbrev s_law_below : Stmt := top 52
abbrev N_law_below : List Str := ["_law_one", "_law_other"]
theorem sc_law_below : FnScope N_law_below ["_law_one", "_law_other"] (defScope s_law_below) := ⟨rfl, rfl, rfl, by decide +kernel, rfl, by decide +kernel, by decide +kernel⟩
abbrev s_law_number : Stmt := top 53
abbrev N_law_number : List Str := ["_law_row", "_law_size"]
theorem sc_law_number : FnScope N_law_number ["_law_row", "_law_size"] (defScope s_law_number) := ⟨rfl, rfl, rfl, by decide +kernel, rfl, by decide +kernel, by decide +kernel⟩
abbrev s_law_solved : Stmt := top 54
abbrev N_law_solved : List Str := ["_law_lot", "_law_rights", "_law_many", "_law_sheet", "_law_at", "_law_some", "_law_lead", "_law_spot", "_law_much", "_law_one", "_law_k", "_law_line"]
theorem sc_law_solved : FnScope N_law_solved ["_law_lot", "_law_rights"] (defScope s_law_solved) := ⟨rfl, rfl, rfl, by decide +kernel, rfl, by decide +kernel, by decide +kernel⟩
abbrev s_law_less : Stmt := top 55
abbrev N_law_less : List Str := ["_law_one", "_law_other"]
theorem sc_law_less : FnScope N_law_less ["_law_one", "_law_other"] (defScope s_law_less) := ⟨rfl, rfl, rfl, by decide +kernel, rfl, by decide +kernel, by decide +kernel⟩
abbrev s_law_inner : Stmt := top 56
abbrev N_law_inner : List Str := ["_law_one", "_law_other", "_law_found", "_law_at"]
theorem sc_law_inner : FnScope N_law_inner ["_law_one", "_law_other"] (defScope s_law_inner) := ⟨rfl, rfl, rfl, by decide +kernel, rfl, by decide +kernel, by decide +kernel⟩
abbrev s_law_squares : Stmt := top 57
abbrev N_law_squares : List Str := ["_law_row", "_law_wide", "_law_size", "_law_told", "_law_found", "_law_at", "_law_line", "_law_turn", "_law_to", "_law_one"]
theorem sc_law_squares : FnScope N_law_squares ["_law_row", "_law_wide", "_law_size"] (defScope s_law_squares) := ⟨rfl, rfl, rfl, by decide +kernel, rfl, by decide +kernel, by decide +kernel⟩
abbrev s_law_task : Stmt := top 58
abbrev N_law_task : List Str := ["_law_row", "_law_columns", "_law_rows", "_law_size", "_law_wide", "_law_squares_here", "_law_costs", "_law_drift", "_law_found", "_law_turn", "_law_numbers", "_law_at"]
theorem sc_law_task : FnScope N_law_task ["_law_row", "_law_columns", "_law_rows", "_law_size"] (defScope s_law_task) := ⟨rfl, rfl, rfl, by decide +kernel, rfl, by decide +kernel, by decide +kernel⟩
abbrev s_law_share : Stmt := top 59
abbrev N_law_share : List Str := ["_law_row", "_law_size", "_law_low"]
theorem sc_law_share : FnScope N_law_share ["_law_row", "_law_size", "_law_low"] (defScope s_law_share) := ⟨rfl, rfl, rfl, by decide +kernel, rfl, by decide +kernel, by decide +kernel⟩
abbrev s_law_slope : Stmt := top 60
abbrev N_law_slope : List Str := ["_law_task_here", "_law_share_here", "_law_plan", "_law_found", "_law_at", "_law_cost"]
theorem sc_law_slope : FnScope N_law_slope ["_law_task_here", "_law_share_here", "_law_plan"] (defScope s_law_slope) := ⟨rfl, rfl, rfl, by decide +kernel, rfl, by decide +kernel, by decide +kernel⟩
abbrev s_law_gaps : Stmt := top 61
abbrev N_law_gaps : List Str := ["_law_task_here", "_law_share_here", "_law_plan", "_law_found", "_law_numbers", "_law_right", "_law_rise", "_law_limit"]
theorem sc_law_gaps : FnScope N_law_gaps ["_law_task_here", "_law_share_here", "_law_plan"] (defScope s_law_gaps) := ⟨rfl, rfl, rfl, by decide +kernel, rfl, by decide +kernel, by decide +kernel⟩
abbrev s_law_worth : Stmt := top 62
abbrev N_law_worth : List Str := ["_law_task_here", "_law_share_here", "_law_plan", "_law_found", "_law_at", "_law_cost", "_law_half"]
theorem sc_law_worth : FnScope N_law_worth ["_law_task_here", "_law_share_here", "_law_plan"] (defScope s_law_worth) := ⟨rfl, rfl, rfl, by decide +kernel, rfl, by decide +kernel, by decide +kernel⟩
abbrev s_law_shows : Stmt := top 63
abbrev N_law_shows : List Str := ["_law_task_here", "_law_share_here", "_law_plan", "_law_weights", "_law_gaps_here", "_law_at", "_law_slope_here", "_law_line"]
theorem sc_law_shows : FnScope N_law_shows ["_law_task_here", "_law_share_here", "_law_plan", "_law_weights"] (defScope s_law_shows) := ⟨rfl, rfl, rfl, by decide +kernel, rfl, by decide +kernel, by decide +kernel⟩
abbrev s_law_bars : Stmt := top 64
abbrev N_law_bars : List Str := ["_law_task_here", "_law_share_here", "_law_weights", "_law_at", "_law_found", "_law_limit", "_law_one", "_law_line"]
theorem sc_law_bars : FnScope N_law_bars ["_law_task_here", "_law_share_here", "_law_weights"] (defScope s_law_bars) := ⟨rfl, rfl, rfl, by decide +kernel, rfl, by decide +kernel, by decide +kernel⟩
abbrev s_law : Stmt := top 65
abbrev N_law : List Str := ["_law_script", "_law_row", "_law_task_here", "_law_share_here", "_law_wide", "_law_high", "_law_plan", "_law_gaps_here", "_law_weights", "_law_told", "_law_free", "_law_whole", "_law_at", "_law_cost", "_law_step", "_law_due", "_law_limit", "_law_gap", "_law_one", "_law_line"]
theorem sc_law : FnScope N_law ["_law_script"] (defScope s_law) := ⟨rfl, rfl, rfl, by decide +kernel, rfl, by decide +kernel, by decide +kernel⟩
structure Top (K : PySem.W.Frag) (mg : Str → Option Value) : Prop where
  f_abs : mg "abs" = none
  f_all : mg "all" = none
  f_any : mg "any" = none
  f_bool : mg "bool" = none
  f_enumerate : mg "enumerate" = none
  f_int : mg "int" = none
  f_isinstance : mg "isinstance" = none
  f_len : mg "len" = none
  f_list : mg "list" = none
  f_max : mg "max" = none
  f_range : mg "range" = none
  f_str : mg "str" = none
  f_sum : mg "sum" = none
  f_tuple : mg "tuple" = none
  f_zip : mg "zip" = none
  d_is_int : ∃ fd, FunD K "is_int" "is_int" (defArgs (top 7)) (defBody (top 7)) (defScope (top 7)) [] [] (He.ga K "is_int") fd
  g_is_int : mg "is_int" = some (.ref (He.ga K "is_int"))
  d_common : ∃ fd, FunD K "common" "common" (defArgs (top 8)) (defBody (top 8)) (defScope (top 8)) [] [] (He.ga K "common") fd
  g_common : mg "common" = some (.ref (He.ga K "common"))
  d_fraction : ∃ fd, FunD K "fraction" "fraction" (defArgs (top 9)) (defBody (top 9)) (defScope (top 9)) [] [] (He.ga K "fraction") fd
  g_fraction : mg "fraction" = some (.ref (He.ga K "fraction"))
  d_is_fraction : ∃ fd, FunD K "is_fraction" "is_fraction" (defArgs (top 10)) (defBody (top 10)) (defScope (top 10)) [] [] (He.ga K "is_fraction") fd
  g_is_fraction : mg "is_fraction" = some (.ref (He.ga K "is_fraction"))
  d_plus : ∃ fd, FunD K "plus" "plus" (defArgs (top 11)) (defBody (top 11)) (defScope (top 11)) [] [] (He.ga K "plus") fd
  g_plus : mg "plus" = some (.ref (He.ga K "plus"))
  d_less : ∃ fd, FunD K "less" "less" (defArgs (top 12)) (defBody (top 12)) (defScope (top 12)) [] [] (He.ga K "less") fd
  g_less : mg "less" = some (.ref (He.ga K "less"))
  d_times : ∃ fd, FunD K "times" "times" (defArgs (top 13)) (defBody (top 13)) (defScope (top 13)) [] [] (He.ga K "times") fd
  g_times : mg "times" = some (.ref (He.ga K "times"))
  d_over : ∃ fd, FunD K "over" "over" (defArgs (top 14)) (defBody (top 14)) (defScope (top 14)) [] [] (He.ga K "over") fd
  g_over : mg "over" = some (.ref (He.ga K "over"))
  d_added : ∃ fd, FunD K "added" "added" (defArgs (top 15)) (defBody (top 15)) (defScope (top 15)) [.ref (He.dflAt ("added", none) 0 K)] [] (He.ga K "added") fd
  g_added : mg "added" = some (.ref (He.ga K "added"))
  dfl_added : ∀ H, RpAll K H [.ref (He.dflAt ("added", none) 0 K)] [(.tuple [.int 1, .int 1])]
  d_inner : ∃ fd, FunD K "inner" "inner" (defArgs (top 16)) (defBody (top 16)) (defScope (top 16)) [] [] (He.ga K "inner") fd
  g_inner : mg "inner" = some (.ref (He.ga K "inner"))
  d_solved : ∃ fd, FunD K "solved" "solved" (defArgs (top 17)) (defBody (top 17)) (defScope (top 17)) [] [] (He.ga K "solved") fd
  g_solved : mg "solved" = some (.ref (He.ga K "solved"))
  d_is_above : ∃ fd, FunD K "is_above" "is_above" (defArgs (top 18)) (defBody (top 18)) (defScope (top 18)) [] [] (He.ga K "is_above") fd
  g_is_above : mg "is_above" = some (.ref (He.ga K "is_above"))
  d_is_small : ∃ fd, FunD K "is_small" "is_small" (defArgs (top 23)) (defBody (top 23)) (defScope (top 23)) [] [] (He.ga K "is_small") fd
  g_is_small : mg "is_small" = some (.ref (He.ga K "is_small"))
  d_is_row : ∃ fd, FunD K "is_row" "is_row" (defArgs (top 24)) (defBody (top 24)) (defScope (top 24)) [] [] (He.ga K "is_row") fd
  g_is_row : mg "is_row" = some (.ref (He.ga K "is_row"))
  d_need_task : ∃ fd, FunD K "need_task" "need_task" (defArgs (top 25)) (defBody (top 25)) (defScope (top 25)) [] [] (He.ga K "need_task") fd
  g_need_task : mg "need_task" = some (.ref (He.ga K "need_task"))
  d_is_turned : ∃ fd, FunD K "is_turned" "is_turned" (defArgs (top 26)) (defBody (top 26)) (defScope (top 26)) [] [] (He.ga K "is_turned") fd
  g_is_turned : mg "is_turned" = some (.ref (He.ga K "is_turned"))
  d_is_task_row : ∃ fd, FunD K "is_task_row" "is_task_row" (defArgs (top 27)) (defBody (top 27)) (defScope (top 27)) [] [] (He.ga K "is_task_row") fd
  g_is_task_row : mg "is_task_row" = some (.ref (He.ga K "is_task_row"))
  d_need_share : ∃ fd, FunD K "need_share" "need_share" (defArgs (top 28)) (defBody (top 28)) (defScope (top 28)) [] [] (He.ga K "need_share") fd
  g_need_share : mg "need_share" = some (.ref (He.ga K "need_share"))
  d_need_plan : ∃ fd, FunD K "need_plan" "need_plan" (defArgs (top 29)) (defBody (top 29)) (defScope (top 29)) [] [] (He.ga K "need_plan") fd
  g_need_plan : mg "need_plan" = some (.ref (He.ga K "need_plan"))
  d_costs_at : ∃ fd, FunD K "costs_at" "costs_at" (defArgs (top 30)) (defBody (top 30)) (defScope (top 30)) [] [] (He.ga K "costs_at") fd
  g_costs_at : mg "costs_at" = some (.ref (He.ga K "costs_at"))
  d_rights_at : ∃ fd, FunD K "rights_at" "rights_at" (defArgs (top 31)) (defBody (top 31)) (defScope (top 31)) [] [] (He.ga K "rights_at") fd
  g_rights_at : mg "rights_at" = some (.ref (He.ga K "rights_at"))
  d_slope_of : ∃ fd, FunD K "slope_of" "slope_of" (defArgs (top 32)) (defBody (top 32)) (defScope (top 32)) [] [] (He.ga K "slope_of") fd
  g_slope_of : mg "slope_of" = some (.ref (He.ga K "slope_of"))
  d_worth_of : ∃ fd, FunD K "worth_of" "worth_of" (defArgs (top 33)) (defBody (top 33)) (defScope (top 33)) [] [] (He.ga K "worth_of") fd
  g_worth_of : mg "worth_of" = some (.ref (He.ga K "worth_of"))
  d_gaps_of : ∃ fd, FunD K "gaps_of" "gaps_of" (defArgs (top 34)) (defBody (top 34)) (defScope (top 34)) [] [] (He.ga K "gaps_of") fd
  g_gaps_of : mg "gaps_of" = some (.ref (He.ga K "gaps_of"))
  d_keeps : ∃ fd, FunD K "keeps" "keeps" (defArgs (top 35)) (defBody (top 35)) (defScope (top 35)) [] [] (He.ga K "keeps") fd
  g_keeps : mg "keeps" = some (.ref (He.ga K "keeps"))
  d_sum_of_rows : ∃ fd, FunD K "sum_of_rows" "sum_of_rows" (defArgs (top 36)) (defBody (top 36)) (defScope (top 36)) [] [] (He.ga K "sum_of_rows") fd
  g_sum_of_rows : mg "sum_of_rows" = some (.ref (He.ga K "sum_of_rows"))
  d_shows_of : ∃ fd, FunD K "shows_of" "shows_of" (defArgs (top 37)) (defBody (top 37)) (defScope (top 37)) [] [] (He.ga K "shows_of") fd
  g_shows_of : mg "shows_of" = some (.ref (He.ga K "shows_of"))
  d_promise_of : ∃ fd, FunD K "promise_of" "promise_of" (defArgs (top 38)) (defBody (top 38)) (defScope (top 38)) [] [] (He.ga K "promise_of") fd
  g_promise_of : mg "promise_of" = some (.ref (He.ga K "promise_of"))
  d_need_both : ∃ fd, FunD K "need_both" "need_both" (defArgs (top 39)) (defBody (top 39)) (defScope (top 39)) [] [] (He.ga K "need_both") fd
  g_need_both : mg "need_both" = some (.ref (He.ga K "need_both"))
  d_worth : ∃ fd, FunD K "worth" "worth" (defArgs (top 40)) (defBody (top 40)) (defScope (top 40)) [] [] (He.ga K "worth") fd
  g_worth : mg "worth" = some (.ref (He.ga K "worth"))
  d_is_kept : ∃ fd, FunD K "is_kept" "is_kept" (defArgs (top 41)) (defBody (top 41)) (defScope (top 41)) [] [] (He.ga K "is_kept") fd
  g_is_kept : mg "is_kept" = some (.ref (He.ga K "is_kept"))
  d_shows : ∃ fd, FunD K "shows" "shows" (defArgs (top 42)) (defBody (top 42)) (defScope (top 42)) [] [] (He.ga K "shows") fd
  g_shows : mg "shows" = some (.ref (He.ga K "shows"))
  d_promise : ∃ fd, FunD K "promise" "promise" (defArgs (top 43)) (defBody (top 43)) (defScope (top 43)) [] [] (He.ga K "promise") fd
  g_promise : mg "promise" = some (.ref (He.ga K "promise"))
  d_bars : ∃ fd, FunD K "bars" "bars" (defArgs (top 44)) (defBody (top 44)) (defScope (top 44)) [] [] (He.ga K "bars") fd
  g_bars : mg "bars" = some (.ref (He.ga K "bars"))
  d_law_taken : ∃ fd, FunD K "_law_taken" "_law_taken" (defArgs (top 46)) (defBody (top 46)) (defScope (top 46)) [] [] (He.ga K "_law_taken") fd
  g_law_taken : mg "_law_taken" = some (.ref (He.ga K "_law_taken"))
  d_law_alike : ∃ fd, FunD K "_law_alike" "_law_alike" (defArgs (top 47)) (defBody (top 47)) (defScope (top 47)) [] [] (He.ga K "_law_alike") fd
  g_law_alike : mg "_law_alike" = some (.ref (He.ga K "_law_alike"))
  d_law_is : ∃ fd, FunD K "_law_is" "_law_is" (defArgs (top 48)) (defBody (top 48)) (defScope (top 48)) [] [] (He.ga K "_law_is") fd
  g_law_is : mg "_law_is" = some (.ref (He.ga K "_law_is"))
  d_law_fr : ∃ fd, FunD K "_law_fr" "_law_fr" (defArgs (top 49)) (defBody (top 49)) (defScope (top 49)) [] [] (He.ga K "_law_fr") fd
  g_law_fr : mg "_law_fr" = some (.ref (He.ga K "_law_fr"))
  d_law_plus : ∃ fd, FunD K "_law_plus" "_law_plus" (defArgs (top 50)) (defBody (top 50)) (defScope (top 50)) [] [] (He.ga K "_law_plus") fd
  g_law_plus : mg "_law_plus" = some (.ref (He.ga K "_law_plus"))
  d_law_times : ∃ fd, FunD K "_law_times" "_law_times" (defArgs (top 51)) (defBody (top 51)) (defScope (top 51)) [] [] (He.ga K "_law_times") fd
  g_law_times : mg "_law_times" = some (.ref (He.ga K "_law_times"))
  d_law_below : ∃ fd, FunD K "_law_below" "_law_below" (defArgs (top 52)) (defBody (top 52)) (defScope (top 52)) [] [] (He.ga K "_law_below") fd
  g_law_below : mg "_law_below" = some (.ref (He.ga K "_law_below"))
  d_law_number : ∃ fd, FunD K "_law_number" "_law_number" (defArgs (top 53)) (defBody (top 53)) (defScope (top 53)) [] [] (He.ga K "_law_number") fd
  g_law_number : mg "_law_number" = some (.ref (He.ga K "_law_number"))
  d_law_solved : ∃ fd, FunD K "_law_solved" "_law_solved" (defArgs (top 54)) (defBody (top 54)) (defScope (top 54)) [] [] (He.ga K "_law_solved") fd
  g_law_solved : mg "_law_solved" = some (.ref (He.ga K "_law_solved"))
  d_law_less : ∃ fd, FunD K "_law_less" "_law_less" (defArgs (top 55)) (defBody (top 55)) (defScope (top 55)) [] [] (He.ga K "_law_less") fd
  g_law_less : mg "_law_less" = some (.ref (He.ga K "_law_less"))
  d_law_inner : ∃ fd, FunD K "_law_inner" "_law_inner" (defArgs (top 56)) (defBody (top 56)) (defScope (top 56)) [] [] (He.ga K "_law_inner") fd
  g_law_inner : mg "_law_inner" = some (.ref (He.ga K "_law_inner"))
  d_law_squares : ∃ fd, FunD K "_law_squares" "_law_squares" (defArgs (top 57)) (defBody (top 57)) (defScope (top 57)) [] [] (He.ga K "_law_squares") fd
  g_law_squares : mg "_law_squares" = some (.ref (He.ga K "_law_squares"))
  d_law_task : ∃ fd, FunD K "_law_task" "_law_task" (defArgs (top 58)) (defBody (top 58)) (defScope (top 58)) [] [] (He.ga K "_law_task") fd
  g_law_task : mg "_law_task" = some (.ref (He.ga K "_law_task"))
  d_law_share : ∃ fd, FunD K "_law_share" "_law_share" (defArgs (top 59)) (defBody (top 59)) (defScope (top 59)) [] [] (He.ga K "_law_share") fd
  g_law_share : mg "_law_share" = some (.ref (He.ga K "_law_share"))
  d_law_slope : ∃ fd, FunD K "_law_slope" "_law_slope" (defArgs (top 60)) (defBody (top 60)) (defScope (top 60)) [] [] (He.ga K "_law_slope") fd
  g_law_slope : mg "_law_slope" = some (.ref (He.ga K "_law_slope"))
  d_law_gaps : ∃ fd, FunD K "_law_gaps" "_law_gaps" (defArgs (top 61)) (defBody (top 61)) (defScope (top 61)) [] [] (He.ga K "_law_gaps") fd
  g_law_gaps : mg "_law_gaps" = some (.ref (He.ga K "_law_gaps"))
  d_law_worth : ∃ fd, FunD K "_law_worth" "_law_worth" (defArgs (top 62)) (defBody (top 62)) (defScope (top 62)) [] [] (He.ga K "_law_worth") fd
  g_law_worth : mg "_law_worth" = some (.ref (He.ga K "_law_worth"))
  d_law_shows : ∃ fd, FunD K "_law_shows" "_law_shows" (defArgs (top 63)) (defBody (top 63)) (defScope (top 63)) [] [] (He.ga K "_law_shows") fd
  g_law_shows : mg "_law_shows" = some (.ref (He.ga K "_law_shows"))
  d_law_bars : ∃ fd, FunD K "_law_bars" "_law_bars" (defArgs (top 64)) (defBody (top 64)) (defScope (top 64)) [] [] (He.ga K "_law_bars") fd
  g_law_bars : mg "_law_bars" = some (.ref (He.ga K "_law_bars"))
  d_law : ∃ fd, FunD K "law" "law" (defArgs (top 65)) (defBody (top 65)) (defScope (top 65)) [] [] (He.ga K "law") fd
  g_law : mg "law" = some (.ref (He.ga K "law"))
  c_NOUGHT : Glb K mg "NOUGHT" (.ref (He.ga K "NOUGHT")) (.tuple [.int 0, .int 1])
  c_MOST_WIDE : Glb K mg "MOST_WIDE" (.int 4) (.int 4)
  c_MOST_HIGH : Glb K mg "MOST_HIGH" (.int 8) (.int 8)
  c_MOST_GIVEN : Glb K mg "MOST_GIVEN" (.int 1000) (.int 1000)
end WK


namespace WK
open PySem PySem.Spec PyProof.Rows L2 DL PG
variable {P : Program} {w : World} {K : PySem.W.Frag} {mg : Str → Option Value} {base : Heap}
theorem ok_is_int (T : Top K mg)  : Has P w K mg base "is_int" 1 [] (spP K F_is_int) := by
  obtain ⟨fd, F⟩ := T.d_is_int
  have ok := def_okG (P := P) (w := w) (mg := mg) (base := base) (k := 0) (N := N_is_int) (ps := ["value"]) (g := g_is_int) F sc_is_int (fun cdv A outer s H E hr rc => by
    have hu := hr.units
    exact ⟨_, (dss_one (ds_ret (de_and (kde_isi K (T := "int") (db_var 0) T.f_isinstance T.f_int (by decide +kernel)) (de_one (de_not (kde_isi K (T := "bool") (db_var 0) T.f_isinstance T.f_bool (by decide +kernel)))))))⟩)
  have b : Binds K fd ["value"] [] := F.bindsN fun _ _ _ _ _ _ us hl => match us, hl with | [_], _ => rfl
  exact ⟨_, fd, _, _, okP_of ok, T.g_is_int, F.kp, b, .nil⟩
end WK


namespace WK
open PySem PySem.Spec PyProof.Rows L2 DL PG
variable {P : Program} {w : World} {K : PySem.W.Frag} {mg : Str → Option Value} {base : Heap}
theorem ok_common (T : Top K mg)  : Has P w K mg base "common" 1 [] (spP K F_common) := by
  obtain ⟨fd, F⟩ := T.d_common
  have ok := def_okG (P := P) (w := w) (mg := mg) (base := base) (k := 0) (N := N_common) (ps := ["one", "other"]) (g := g_common) F sc_common (fun cdv A outer s H E hr rc => by
    have hu := hr.units
    exact ⟨_, (dss_cons (ds_par (i := 0) (j := 1) rfl sc_common.nd (DE.v (de_callB call_abs c_abs (db_var 0) T.f_abs PyProof.Rows.boot_abs)) (DE.v (de_callB call_abs c_abs (db_var 1) T.f_abs PyProof.Rows.boot_abs)) (by decide))
    (dss_cons (ds_while fuel_common PassesOwn.never (dt_cmp (kop_neD K hu) s_ne (db_var 1) (DE.toB (m := false) de_int)) (dss_one (ds_par (i := 0) (j := 1) rfl sc_common.nd (DE.v (de_var 1)) (DE.v (de_op op_modN s_mod (db_var 0) (db_var 1))) (by decide))))
    (dss_one (ds_ret (de_var 0)))))⟩)
  have b : Binds K fd ["one", "other"] [] := F.bindsN fun _ _ _ _ _ _ us hl => match us, hl with | [_, _], _ => rfl
  exact ⟨_, fd, _, _, okP_of ok, T.g_common, F.kp, b, .nil⟩
end WK


namespace WK
open PySem PySem.Spec PyProof.Rows L2 DL PG
variable {P : Program} {w : World} {K : PySem.W.Frag} {mg : Str → Option Value} {base : Heap}
theorem ok_fraction (T : Top K mg) (hS : base.NoSeer) (ht : P.given.tree = none) (h_common : Has P w K mg base "common" 1 [] (spP K F_common)) : Has P w K mg base "fraction" 34 [] (spP K F_fraction) := by
  obtain ⟨fd, F⟩ := T.d_fraction
  have ok := def_okG (P := P) (w := w) (mg := mg) (base := base) (k := 33) (N := N_fraction) (ps := ["top", "low"]) (g := g_fraction) F sc_fraction (fun cdv A outer s H E hr rc => by
    have hpy : PylongAt (cxOf CX0 P w K mg base N_fraction "fraction" (defScope s_fraction) (He.ga K "fraction") cdv A outer s H E).nox := pylong_of hS ht rfl rfl rfl rfl rfl hr (by decide); have hu := hr.units
    exact ⟨_, (dss_cons (ds_set (i := 2) sc_fraction.nd (kde_callP K (k := 1) h_common (hr.mono (by decide)) (fun _ => RpAll.nil) (da_cons (de_var 0) (da_cons (de_var 1) da_nil))))
    (dss_cons (ds_par (i := 0) (j := 1) rfl sc_fraction.nd (DE.v (de_op (op_divP hpy) s_div (db_var 0) (db_var 2))) (DE.v (de_op (op_divP hpy) s_div (db_var 1) (db_var 2))) (by decide))
    (dss_one (ds_ret (de_if (dt_cmp op_lt s_lt (db_var 1) (DE.toB (m := false) de_int)) (de_tup (da_cons (de_neg (db_var 0)) (da_cons (de_neg (db_var 1)) da_nil))) (de_tup (da_cons (de_var 0) (da_cons (de_var 1) da_nil))))))))⟩)
  have b : Binds K fd ["top", "low"] [] := F.bindsN fun _ _ _ _ _ _ us hl => match us, hl with | [_, _], _ => rfl
  exact ⟨_, fd, _, _, okP_of ok, T.g_fraction, F.kp, b, .nil⟩
end WK


namespace WK
open PySem PySem.Spec PyProof.Rows L2 DL PG
variable {P : Program} {w : World} {K : PySem.W.Frag} {mg : Str → Option Value} {base : Heap}
theorem ok_is_fraction (T : Top K mg) (h_is_int : Has P w K mg base "is_int" 1 [] (spP K F_is_int)) (h_common : Has P w K mg base "common" 1 [] (spP K F_common)) : Has P w K mg base "is_fraction" 2 [] (spP K F_is_fraction) := by
  obtain ⟨fd, F⟩ := T.d_is_fraction
  have ok := def_okG (P := P) (w := w) (mg := mg) (base := base) (k := 1) (N := N_is_fraction) (ps := ["value"]) (g := g_is_fraction) F sc_is_fraction (fun cdv A outer s H E hr rc => by
    have hu := hr.units
    exact ⟨_, (dss_cons (ds_if (DW.dt (dw_or (dt_not (dt_val (kde_isi K (T := "tuple") (db_var 0) T.f_isinstance T.f_tuple (by decide +kernel)))) (dw_or (dt_cmp (kop_neD K hu) s_ne (DE.toB (m := false) (de_callB (kcall_len K) (kc_len K) (db_var 0) T.f_len PySem.boot_len)) (DE.toB (m := false) de_int)) (dw_or (dt_not (dt_val (kde_callP K (k := 1) h_is_int (hr.mono (by decide)) (fun _ => RpAll.nil) (da_cons (kde_ix K (db_var 0) (DE.toB (m := false) de_int)) da_nil)))) (dw_or1 (dt_not (dt_val (kde_callP K (k := 1) h_is_int (hr.mono (by decide)) (fun _ => RpAll.nil) (da_cons (kde_ix K (db_var 0) (DE.toB (m := false) de_int)) da_nil))))))))) (dss_one (ds_ret de_bl)) dss_nil)
    (dss_one (ds_ret (de_and (de_cmp op_gt s_gt (DE.toB (m := false) (kde_ix K (db_var 0) (DE.toB (m := false) de_int))) (DE.toB (m := false) de_int)) (de_one (de_cmp (kop_eqD K hu) s_eq (DE.toB (m := false) (kde_callP K (k := 1) h_common (hr.mono (by decide)) (fun _ => RpAll.nil) (da_cons (kde_ix K (db_var 0) (DE.toB (m := false) de_int)) (da_cons (kde_ix K (db_var 0) (DE.toB (m := false) de_int)) da_nil)))) (DE.toB (m := false) de_int)))))))⟩)
  have b : Binds K fd ["value"] [] := F.bindsN fun _ _ _ _ _ _ us hl => match us, hl with | [_], _ => rfl
  exact ⟨_, fd, _, _, okP_of ok, T.g_is_fraction, F.kp, b, .nil⟩
end WK


namespace WK
open PySem PySem.Spec PyProof.Rows L2 DL PG
variable {P : Program} {w : World} {K : PySem.W.Frag} {mg : Str → Option Value} {base : Heap}
theorem ok_plus (T : Top K mg) (h_fraction : Has P w K mg base "fraction" 34 [] (spP K F_fraction)) : Has P w K mg base "plus" 35 [] (spP K F_plus) := by
  obtain ⟨fd, F⟩ := T.d_plus
  have ok := def_okG (P := P) (w := w) (mg := mg) (base := base) (k := 34) (N := N_plus) (ps := ["one", "other"]) (g := g_plus) F sc_plus (fun cdv A outer s H E hr rc => by
    have hu := hr.units
    exact ⟨_, (dss_one (ds_ret (kde_callP K (k := 34) h_fraction (hr.mono (by decide)) (fun _ => RpAll.nil) (da_cons (de_op op_add s_add (DE.toB (m := false) (de_op op_mulM s_mul (DE.toB (m := false) (kde_ix K (db_var 0) (DE.toB (m := false) de_int))) (DE.toB (m := false) (kde_ix K (db_var 1) (DE.toB (m := false) de_int))))) (DE.toB (m := false) (de_op op_mulM s_mul (DE.toB (m := false) (kde_ix K (db_var 1) (DE.toB (m := false) de_int))) (DE.toB (m := false) (kde_ix K (db_var 0) (DE.toB (m := false) de_int)))))) (da_cons (de_op op_mulM s_mul (DE.toB (m := false) (kde_ix K (db_var 0) (DE.toB (m := false) de_int))) (DE.toB (m := false) (kde_ix K (db_var 1) (DE.toB (m := false) de_int)))) da_nil)))))⟩)
  have b : Binds K fd ["one", "other"] [] := F.bindsN fun _ _ _ _ _ _ us hl => match us, hl with | [_, _], _ => rfl
  exact ⟨_, fd, _, _, okP_of ok, T.g_plus, F.kp, b, .nil⟩
end WK


namespace WK
open PySem PySem.Spec PyProof.Rows L2 DL PG
variable {P : Program} {w : World} {K : PySem.W.Frag} {mg : Str → Option Value} {base : Heap}
theorem ok_less (T : Top K mg) (h_fraction : Has P w K mg base "fraction" 34 [] (spP K F_fraction)) : Has P w K mg base "less" 35 [] (spP K F_less) := by
  obtain ⟨fd, F⟩ := T.d_less
  have ok := def_okG (P := P) (w := w) (mg := mg) (base := base) (k := 34) (N := N_less) (ps := ["one", "other"]) (g := g_less) F sc_less (fun cdv A outer s H E hr rc => by
    have hu := hr.units
    exact ⟨_, (dss_one (ds_ret (kde_callP K (k := 34) h_fraction (hr.mono (by decide)) (fun _ => RpAll.nil) (da_cons (de_op op_sub s_sub (DE.toB (m := false) (de_op op_mulM s_mul (DE.toB (m := false) (kde_ix K (db_var 0) (DE.toB (m := false) de_int))) (DE.toB (m := false) (kde_ix K (db_var 1) (DE.toB (m := false) de_int))))) (DE.toB (m := false) (de_op op_mulM s_mul (DE.toB (m := false) (kde_ix K (db_var 1) (DE.toB (m := false) de_int))) (DE.toB (m := false) (kde_ix K (db_var 0) (DE.toB (m := false) de_int)))))) (da_cons (de_op op_mulM s_mul (DE.toB (m := false) (kde_ix K (db_var 0) (DE.toB (m := false) de_int))) (DE.toB (m := false) (kde_ix K (db_var 1) (DE.toB (m := false) de_int)))) da_nil)))))⟩)
  have b : Binds K fd ["one", "other"] [] := F.bindsN fun _ _ _ _ _ _ us hl => match us, hl with | [_, _], _ => rfl
  exact ⟨_, fd, _, _, okP_of ok, T.g_less, F.kp, b, .nil⟩
end WK


namespace WK
open PySem PySem.Spec PyProof.Rows L2 DL PG
variable {P : Program} {w : World} {K : PySem.W.Frag} {mg : Str → Option Value} {base : Heap}
theorem ok_times (T : Top K mg) (h_fraction : Has P w K mg base "fraction" 34 [] (spP K F_fraction)) : Has P w K mg base "times" 35 [] (spP K F_times) := by
  obtain ⟨fd, F⟩ := T.d_times
  have ok := def_okG (P := P) (w := w) (mg := mg) (base := base) (k := 34) (N := N_times) (ps := ["one", "other"]) (g := g_times) F sc_times (fun cdv A outer s H E hr rc => by
    have hu := hr.units
    exact ⟨_, (dss_one (ds_ret (kde_callP K (k := 34) h_fraction (hr.mono (by decide)) (fun _ => RpAll.nil) (da_cons (de_op op_mulM s_mul (DE.toB (m := false) (kde_ix K (db_var 0) (DE.toB (m := false) de_int))) (DE.toB (m := false) (kde_ix K (db_var 1) (DE.toB (m := false) de_int)))) (da_cons (de_op op_mulM s_mul (DE.toB (m := false) (kde_ix K (db_var 0) (DE.toB (m := false) de_int))) (DE.toB (m := false) (kde_ix K (db_var 1) (DE.toB (m := false) de_int)))) da_nil)))))⟩)
  have b : Binds K fd ["one", "other"] [] := F.bindsN fun _ _ _ _ _ _ us hl => match us, hl with | [_, _], _ => rfl
  exact ⟨_, fd, _, _, okP_of ok, T.g_times, F.kp, b, .nil⟩
end WK


namespace WK
open PySem PySem.Spec PyProof.Rows L2 DL PG
variable {P : Program} {w : World} {K : PySem.W.Frag} {mg : Str → Option Value} {base : Heap}
theorem ok_over (T : Top K mg) (h_fraction : Has P w K mg base "fraction" 34 [] (spP K F_fraction)) : Has P w K mg base "over" 35 [] (spP K F_over) := by
  obtain ⟨fd, F⟩ := T.d_over
  have ok := def_okG (P := P) (w := w) (mg := mg) (base := base) (k := 34) (N := N_over) (ps := ["one", "other"]) (g := g_over) F sc_over (fun cdv A outer s H E hr rc => by
    have hu := hr.units
    exact ⟨_, (dss_one (ds_ret (kde_callP K (k := 34) h_fraction (hr.mono (by decide)) (fun _ => RpAll.nil) (da_cons (de_op op_mulM s_mul (DE.toB (m := false) (kde_ix K (db_var 0) (DE.toB (m := false) de_int))) (DE.toB (m := false) (kde_ix K (db_var 1) (DE.toB (m := false) de_int)))) (da_cons (de_op op_mulM s_mul (DE.toB (m := false) (kde_ix K (db_var 0) (DE.toB (m := false) de_int))) (DE.toB (m := false) (kde_ix K (db_var 1) (DE.toB (m := false) de_int)))) da_nil)))))⟩)
  have b : Binds K fd ["one", "other"] [] := F.bindsN fun _ _ _ _ _ _ us hl => match us, hl with | [_, _], _ => rfl
  exact ⟨_, fd, _, _, okP_of ok, T.g_over, F.kp, b, .nil⟩
end WK


namespace WK
open PySem PySem.Spec PyProof.Rows L2 DL PG
variable {P : Program} {w : World} {K : PySem.W.Frag} {mg : Str → Option Value} {base : Heap}
theorem ok0_added (T : Top K mg) (h_plus : Has P w K mg base "plus" 35 [] (spP K F_plus)) (h_times : Has P w K mg base "times" 35 [] (spP K F_times)) {fd : FuncData} (F : FunD K "added" "added" (defArgs (top 15)) (defBody (top 15)) (defScope (top 15)) [.ref (He.dflAt ("added", none) 0 K)] [] (He.ga K "added") fd) : FnOk P w K mg base CX0 36 (He.ga K "added") fd ["one", "other", "many"] (spP K F_added) := by
  have ok := def_okG (P := P) (w := w) (mg := mg) (base := base) (k := 35) (N := N_added) (ps := ["one", "other", "many"]) (g := g_added) F sc_added (fun cdv A outer s H E hr rc => by
    have hu := hr.units
    exact ⟨_, (dss_one (ds_ret (DF.toE (df_lc (own := [("a", 3), ("b", 4)]) rfl sc_added.nd (kdi_zip2 K T.f_zip (db_var 0) (db_var 1)) (blkOk_by (own := [("a", 3), ("b", 4)]) (N := N_added) (sc := defScope s_added) (by decide +kernel)) (fun _ _ _ _ _ => (kdg_tup K rfl (dgs_cons (dg_name (i := 3) sc_added.nd (by decide)) (dgs_cons (dg_name (i := 4) sc_added.nd (by decide)) dgs_nil)))) (fun _ _ _ _ _ => dts_nil) (fun _ _ _ _ _ => (kde_callP K (k := 35) h_plus (hr.mono (by decide)) (fun _ => RpAll.nil) (da_cons (de_var 3) (da_cons (kde_callP K (k := 35) h_times (hr.mono (by decide)) (fun _ => RpAll.nil) (da_cons (de_var 2) (da_cons (de_var 4) da_nil))) da_nil))))))))⟩)
  exact okP_of ok
end WK


namespace WK
open PySem PySem.Spec PyProof.Rows L2 DL PG
variable {P : Program} {w : World} {K : PySem.W.Frag} {mg : Str → Option Value} {base : Heap}
theorem ok_inner (T : Top K mg) (h_plus : Has P w K mg base "plus" 35 [] (spP K F_plus)) (h_times : Has P w K mg base "times" 35 [] (spP K F_times)) : Has P w K mg base "inner" 36 [] (spP K F_inner) := by
  obtain ⟨fd, F⟩ := T.d_inner
  have ok := def_okG (P := P) (w := w) (mg := mg) (base := base) (k := 35) (N := N_inner) (ps := ["numbers", "row"]) (g := g_inner) F sc_inner (fun cdv A outer s H E hr rc => by
    have hu := hr.units
    exact ⟨_, (dss_cons (ds_set (i := 2) sc_inner.nd (de_glob T.c_NOUGHT))
    (dss_cons (ds_for (vs := [3, 4]) PassesOwn.never rfl (kdi_zip2 K T.f_zip (db_varS 0) (db_varS 1)) (kdg_tup K rfl (dgs_cons (dg_name (i := 3) sc_inner.nd (by decide)) (dgs_cons (dg_name (i := 4) sc_inner.nd (by decide)) dgs_nil))) (dss_one (ds_set (i := 2) sc_inner.nd (kde_callP K (k := 35) h_plus (hr.mono (by decide)) (fun _ => RpAll.nil) (da_cons (de_var 2) (da_cons (kde_callP K (k := 35) h_times (hr.mono (by decide)) (fun _ => RpAll.nil) (da_cons (de_tup (da_cons (de_var 3) (da_cons de_int da_nil))) (da_cons (de_var 4) da_nil))) da_nil))))))
    (dss_one (ds_ret (de_var 2)))))⟩)
  have b : Binds K fd ["numbers", "row"] [] := F.bindsN fun _ _ _ _ _ _ us hl => match us, hl with | [_, _], _ => rfl
  exact ⟨_, fd, _, _, okP_of ok, T.g_inner, F.kp, b, .nil⟩
end WK


namespace WK
open PySem PySem.Spec PyProof.Rows L2 DL PG
variable {P : Program} {w : World} {K : PySem.W.Frag} {mg : Str → Option Value} {base : Heap}
theorem ok_solved (T : Top K mg) (h_over : Has P w K mg base "over" 35 [] (spP K F_over)) (h_added : Has P w K mg base "added" 36 [] (spP K F_added)) : Has P w K mg base "solved" 37 [] (spP K F_solved) := by
  obtain ⟨fd, F⟩ := T.d_solved
  have ok := def_okG (P := P) (w := w) (mg := mg) (base := base) (k := 36) (N := N_solved) (ps := ["rows", "sides"]) (g := g_solved) F sc_solved (fun cdv A outer s H E hr rc => by
    have hu := hr.units
    exact ⟨_, (dss_cons (ds_set (i := 2) sc_solved.nd (de_callB (kcall_len K) (kc_len K) (db_var 0) T.f_len PySem.boot_len))
    (dss_cons (ds_setO (i := 3) sc_solved.nd (df_lc (own := [("at", 4), ("row", 9)]) rfl sc_solved.nd (kdi_enum K T.f_enumerate (db_var 0)) (blkOk_by (own := [("at", 4), ("row", 9)]) (N := N_solved) (sc := defScope s_solved) (by decide +kernel)) (fun _ _ _ _ _ => (kdg_tup K rfl (dgs_cons (dg_name (i := 4) sc_solved.nd (by decide)) (dgs_cons (dg_name (i := 9) sc_solved.nd (by decide)) dgs_nil)))) (fun _ _ _ _ _ => dts_nil) (fun _ _ _ _ _ => (DF.toE (df_lst (kda_star K (db_var 9) (kda_star K (DE.toB (m := false) (DF.toE (df_lc (own := [("side", 10)]) rfl sc_solved.nd (kdi_seq K (db_var 1)) (blkOk_by (own := [("side", 10)]) rfl) (fun _ _ _ _ _ => (dg_name (i := 10) sc_solved.nd (by decide))) (fun _ _ _ _ _ => dts_nil) (fun _ _ _ _ _ => (kde_ix K (db_var 10) (db_var 4)))))) da_nil)))))))
    (dss_cons (ds_for (vs := [4]) PassesOwn.never rfl (di_range1 (m := true) T.f_range (de_var 2)) (dg_name (i := 4) sc_solved.nd (by decide)) (dss_cons (ds_setLc (own := [("spot", 7)]) (i := 5) rfl sc_solved.nd rfl rfl (sw_true rfl rfl rfl (by decide +kernel)) (di_range2 (m := false) T.f_range (de_var 4) (de_var 2)) (blkOk_by (own := [("spot", 7)]) (N := N_solved) (sc := defScope s_solved) (by decide +kernel)) (fun _ _ _ _ _ => (dg_name (i := 7) sc_solved.nd (by decide))) (fun _ _ _ _ _ => (dts_one (dt_cmp (kop_neD K hu) s_ne (DE.toB (m := false) (kde_ix K (DE.toB (m := false) (kde_ix K (DE.toB (m := false) (kde_ix K (db_var 3) (db_var 7))) (db_var 4))) (DE.toB (m := false) de_int))) (DE.toB (m := false) de_int)))) (fun _ _ _ _ _ => (de_var 7)))
    (dss_cons (ds_if (dt_cmp (kop_eqD K hu) s_eq (db_var 5) (DE.toB (m := false) (DF.toE (df_lst da_nil)))) (dss_one (ds_ret de_non)) dss_nil)
    (dss_cons (ds_asg (de_tup (da_cons (kde_ix K (db_var 3) (DE.toB (m := false) (kde_ix K (db_var 5) (DE.toB (m := false) de_int)))) (da_cons (kde_ix K (db_var 3) (db_var 4)) da_nil))) (dx_tup rfl (dxs_cons (dx_sub (i := 3) (de_var 4)) (dxs_cons (dx_sub (i := 3) (kde_ix K (db_var 5) (DE.toB (m := false) de_int))) dxs_nil))))
    (dss_cons (ds_set (i := 6) sc_solved.nd (kde_ix K (DE.toB (m := false) (kde_ix K (db_var 3) (db_var 4))) (db_var 4)))
    (dss_cons (ds_asg (DF.toE (df_lc (own := [("one", 11)]) rfl sc_solved.nd (kdi_seq K (DE.toB (m := false) (kde_ix K (db_var 3) (db_var 4)))) (blkOk_by (own := [("one", 11)]) (N := N_solved) (sc := defScope s_solved) (by decide +kernel)) (fun _ _ _ _ _ => (dg_name (i := 11) sc_solved.nd (by decide))) (fun _ _ _ _ _ => dts_nil) (fun _ _ _ _ _ => (kde_callP K (k := 35) h_over (hr.mono (by decide)) (fun _ => RpAll.nil) (da_cons (de_var 11) (da_cons (de_var 6) da_nil)))))) (dx_sub (i := 3) (de_var 4)))
    (dss_one (ds_for (vs := [7]) PassesOwn.never rfl (di_range1 (m := true) T.f_range (de_var 2)) (dg_name (i := 7) sc_solved.nd (by decide)) (dss_one (ds_if (DW.dt (dw_and (dt_cmp (kop_neD K hu) s_ne (db_var 7) (db_var 4)) (dw_and1 (dt_cmp (kop_neD K hu) s_ne (DE.toB (m := false) (kde_ix K (DE.toB (m := false) (kde_ix K (DE.toB (m := false) (kde_ix K (db_var 3) (db_var 7))) (db_var 4))) (DE.toB (m := false) de_int))) (DE.toB (m := false) de_int))))) (dss_cons (ds_set (i := 8) sc_solved.nd (de_tup (da_cons (de_neg (DE.toB (m := false) (kde_ix K (DE.toB (m := false) (kde_ix K (DE.toB (m := false) (kde_ix K (db_var 3) (db_var 7))) (db_var 4))) (DE.toB (m := false) de_int)))) (da_cons (kde_ix K (DE.toB (m := false) (kde_ix K (DE.toB (m := false) (kde_ix K (db_var 3) (db_var 7))) (db_var 4))) (DE.toB (m := false) de_int)) da_nil))))
    (dss_one (ds_asg (kde_callP K (k := 36) h_added (hr.mono (by decide)) (fun _ => RpAll.nil) (da_cons (kde_ix K (db_var 3) (db_var 7)) (da_cons (kde_ix K (db_var 3) (db_var 4)) (da_cons (de_var 8) da_nil)))) (dx_sub (i := 3) (de_var 7))))) dss_nil))))))))))
    (dss_one (ds_ret (DF.toE (df_lc (own := [("spot", 7)]) rfl sc_solved.nd (di_range1 (m := false) T.f_range (de_callB (kcall_len K) (kc_len K) (db_var 1) T.f_len PySem.boot_len)) (blkOk_by (own := [("spot", 7)]) (N := N_solved) (sc := defScope s_solved) (by decide +kernel)) (fun _ _ _ _ _ => (dg_name (i := 7) sc_solved.nd (by decide))) (fun _ _ _ _ _ => dts_nil) (fun _ _ _ _ _ => (DF.toE (df_lc (own := [("line", 12)]) rfl sc_solved.nd (kdi_seq K (db_var 3)) (blkOk_by (own := [("line", 12)]) rfl) (fun _ _ _ _ _ => (dg_name (i := 12) sc_solved.nd (by decide))) (fun _ _ _ _ _ => dts_nil) (fun _ _ _ _ _ => (kde_ix K (db_var 12) (DE.toB (m := false) (de_op op_add s_add (db_var 2) (db_var 7)))))))))))))))⟩)
  have b : Binds K fd ["rows", "sides"] [] := F.bindsN fun _ _ _ _ _ _ us hl => match us, hl with | [_, _], _ => rfl
  exact ⟨_, fd, _, _, okP_of ok, T.g_solved, F.kp, b, .nil⟩
end WK


namespace WK
open PySem PySem.Spec PyProof.Rows L2 DL PG
variable {P : Program} {w : World} {K : PySem.W.Frag} {mg : Str → Option Value} {base : Heap}
theorem ok_is_above (T : Top K mg) (h_over : Has P w K mg base "over" 35 [] (spP K F_over)) (h_added : Has P w K mg base "added" 36 [] (spP K F_added)) : Has P w K mg base "is_above" 37 [] (spP K F_is_above) := by
  obtain ⟨fd, F⟩ := T.d_is_above
  have ok := def_okG (P := P) (w := w) (mg := mg) (base := base) (k := 36) (N := N_is_above) (ps := ["table"]) (g := g_is_above) F sc_is_above (fun cdv A outer s H E hr rc => by
    have hu := hr.units
    exact ⟨_, (dss_cons (ds_setLcO (own := [("row", 5)]) (i := 1) rfl sc_is_above.nd rfl rfl (sw_true rfl rfl rfl (by decide +kernel)) (kdi_seq K (db_var 0)) (blkOk_by (own := [("row", 5)]) (N := N_is_above) (sc := defScope s_is_above) (by decide +kernel)) (fun _ _ _ _ _ => (dg_name (i := 5) sc_is_above.nd (by decide))) (fun _ _ _ _ _ => dts_nil) (fun _ _ _ _ _ => (DF.toE (df_lc (own := [("one", 6)]) rfl sc_is_above.nd (kdi_seq K (db_var 5)) (blkOk_by (own := [("one", 6)]) rfl) (fun _ _ _ _ _ => (dg_name (i := 6) sc_is_above.nd (by decide))) (fun _ _ _ _ _ => dts_nil) (fun _ _ _ _ _ => (de_tup (da_cons (de_var 6) (da_cons de_int da_nil))))))))
    (dss_cons (ds_for (vs := [2]) PassesOwn.never rfl (di_range1 (m := true) T.f_range (de_callB (kcall_len K) (kc_len K) (db_var 1) T.f_len PySem.boot_len)) (dg_name (i := 2) sc_is_above.nd (by decide)) (dss_cons (ds_if (dt_cmp op_le s_le (DE.toB (m := false) (kde_ix K (DE.toB (m := false) (kde_ix K (DE.toB (m := false) (kde_ix K (db_var 1) (db_var 2))) (db_var 2))) (DE.toB (m := false) de_int))) (DE.toB (m := false) de_int)) (dss_one (ds_ret de_bl)) dss_nil)
    (dss_one (ds_for (vs := [3]) PassesOwn.never rfl (di_range2 (m := true) T.f_range (de_op op_add s_add (db_var 2) (DE.toB (m := false) de_int)) (de_callB (kcall_len K) (kc_len K) (db_var 1) T.f_len PySem.boot_len)) (dg_name (i := 3) sc_is_above.nd (by decide)) (dss_cons (ds_set (i := 4) sc_is_above.nd (kde_callP K (k := 35) h_over (hr.mono (by decide)) (fun _ => RpAll.nil) (da_cons (kde_ix K (DE.toB (m := false) (kde_ix K (db_var 1) (db_var 3))) (db_var 2)) (da_cons (kde_ix K (DE.toB (m := false) (kde_ix K (db_var 1) (db_var 2))) (db_var 2)) da_nil))))
    (dss_one (ds_asg (kde_callP K (k := 36) h_added (hr.mono (by decide)) (fun _ => RpAll.nil) (da_cons (kde_ix K (db_var 1) (db_var 3)) (da_cons (kde_ix K (db_var 1) (db_var 2)) (da_cons (de_tup (da_cons (de_neg (DE.toB (m := false) (kde_ix K (db_var 4) (DE.toB (m := false) de_int)))) (da_cons (kde_ix K (db_var 4) (DE.toB (m := false) de_int)) da_nil))) da_nil)))) (dx_sub (i := 1) (de_var 3)))))))))
    (dss_one (ds_ret de_bl))))⟩)
  have b : Binds K fd ["table"] [] := F.bindsN fun _ _ _ _ _ _ us hl => match us, hl with | [_], _ => rfl
  exact ⟨_, fd, _, _, okP_of ok, T.g_is_above, F.kp, b, .nil⟩
end WK


namespace WK
open PySem PySem.Spec PyProof.Rows L2 DL PG
variable {P : Program} {w : World} {K : PySem.W.Frag} {mg : Str → Option Value} {base : Heap}
theorem ok_is_small (T : Top K mg) (h_is_int : Has P w K mg base "is_int" 1 [] (spP K F_is_int)) : Has P w K mg base "is_small" 2 [] (spP K F_is_small) := by
  obtain ⟨fd, F⟩ := T.d_is_small
  have ok := def_okG (P := P) (w := w) (mg := mg) (base := base) (k := 1) (N := N_is_small) (ps := ["value"]) (g := g_is_small) F sc_is_small (fun cdv A outer s H E hr rc => by
    have hu := hr.units
    exact ⟨_, (dss_one (ds_ret (de_and (kde_callP K (k := 1) h_is_int (hr.mono (by decide)) (fun _ => RpAll.nil) (da_cons (de_var 0) da_nil)) (de_one (de_chain op_le s_le op_le s_le (DE.toB (m := false) (de_neg (DE.toB (m := false) (de_glob T.c_MOST_GIVEN)))) (db_var 0) (DE.toB (m := false) (de_glob T.c_MOST_GIVEN)))))))⟩)
  have b : Binds K fd ["value"] [] := F.bindsN fun _ _ _ _ _ _ us hl => match us, hl with | [_], _ => rfl
  exact ⟨_, fd, _, _, okP_of ok, T.g_is_small, F.kp, b, .nil⟩
end WK


namespace WK
open PySem PySem.Spec PyProof.Rows L2 DL PG
variable {P : Program} {w : World} {K : PySem.W.Frag} {mg : Str → Option Value} {base : Heap}
theorem ok_is_row (T : Top K mg) (h_is_small : Has P w K mg base "is_small" 2 [] (spP K F_is_small)) : Has P w K mg base "is_row" 3 [] (spP K F_is_row) := by
  obtain ⟨fd, F⟩ := T.d_is_row
  have ok := def_okG (P := P) (w := w) (mg := mg) (base := base) (k := 2) (N := N_is_row) (ps := ["value", "wide"]) (g := g_is_row) F sc_is_row (fun cdv A outer s H E hr rc => by
    have hu := hr.units
    exact ⟨_, (dss_one (ds_ret (de_and (kde_isi K (T := "tuple") (db_var 0) T.f_isinstance T.f_tuple (by decide +kernel)) (de_and (de_cmp (kop_eqD K hu) s_eq (DE.toB (m := false) (de_callB (kcall_len K) (kc_len K) (db_var 0) T.f_len PySem.boot_len)) (db_var 1)) (de_one (de_callB (kcr_all K rfl) c_all (DE.toB (m := false) (DF.toE (df_lc (own := [("one", 2)]) rfl sc_is_row.nd (kdi_seq K (db_var 0)) (blkOk_by (own := [("one", 2)]) (N := N_is_row) (sc := defScope s_is_row) (by decide +kernel)) (fun _ _ _ _ _ => (dg_name (i := 2) sc_is_row.nd (by decide))) (fun _ _ _ _ _ => dts_nil) (fun _ _ _ _ _ => (kde_callP K (k := 2) h_is_small (hr.mono (by decide)) (fun _ => RpAll.nil) (da_cons (de_var 2) da_nil)))))) T.f_all PyProof.Rows.boot_all))))))⟩)
  have b : Binds K fd ["value", "wide"] [] := F.bindsN fun _ _ _ _ _ _ us hl => match us, hl with | [_, _], _ => rfl
  exact ⟨_, fd, _, _, okP_of ok, T.g_is_row, F.kp, b, .nil⟩
end WK


namespace WK
open PySem PySem.Spec PyProof.Rows L2 DL PG
variable {P : Program} {w : World} {K : PySem.W.Frag} {mg : Str → Option Value} {base : Heap}
theorem ok_is_turned (T : Top K mg)  : Has P w K mg base "is_turned" 1 [] (spP K F_is_turned) := by
  obtain ⟨fd, F⟩ := T.d_is_turned
  have ok := def_okG (P := P) (w := w) (mg := mg) (base := base) (k := 0) (N := N_is_turned) (ps := ["table"]) (g := g_is_turned) F sc_is_turned (fun cdv A outer s H E hr rc => by
    have hu := hr.units
    exact ⟨_, (dss_one (ds_ret (de_cmp (kop_eqD K hu) s_eq (db_var 0) (DE.toB (m := false) (de_callTy (kcall_tuple K) c_tuple (DE.toB (m := false) (DF.toE (df_lc (own := [("at", 1)]) rfl sc_is_turned.nd (di_range1 (m := false) T.f_range (de_callB (kcall_len K) (kc_len K) (db_var 0) T.f_len PySem.boot_len)) (blkOk_by (own := [("at", 1)]) (N := N_is_turned) (sc := defScope s_is_turned) (by decide +kernel)) (fun _ _ _ _ _ => (dg_name (i := 1) sc_is_turned.nd (by decide))) (fun _ _ _ _ _ => dts_nil) (fun _ _ _ _ _ => (de_callTy (kcall_tuple K) c_tuple (DE.toB (m := false) (DF.toE (df_lc (own := [("row", 2)]) rfl sc_is_turned.nd (kdi_seq K (db_var 0)) (blkOk_by (own := [("row", 2)]) rfl) (fun _ _ _ _ _ => (dg_name (i := 2) sc_is_turned.nd (by decide))) (fun _ _ _ _ _ => dts_nil) (fun _ _ _ _ _ => (kde_ix K (db_var 2) (db_var 1)))))) T.f_tuple PyProof.Rows.boot_tuple))))) T.f_tuple PyProof.Rows.boot_tuple)))))⟩)
  have b : Binds K fd ["table"] [] := F.bindsN fun _ _ _ _ _ _ us hl => match us, hl with | [_], _ => rfl
  exact ⟨_, fd, _, _, okP_of ok, T.g_is_turned, F.kp, b, .nil⟩
end WK


namespace WK
open PySem PySem.Spec PyProof.Rows L2 DL PG
variable {P : Program} {w : World} {K : PySem.W.Frag} {mg : Str → Option Value} {base : Heap}
theorem ok_is_task_row (T : Top K mg) (h_is_row : Has P w K mg base "is_row" 3 [] (spP K F_is_row)) (h_is_small : Has P w K mg base "is_small" 2 [] (spP K F_is_small)) : Has P w K mg base "is_task_row" 4 [] (spP K F_is_task_row) := by
  obtain ⟨fd, F⟩ := T.d_is_task_row
  have ok := def_okG (P := P) (w := w) (mg := mg) (base := base) (k := 3) (N := N_is_task_row) (ps := ["value", "wide"]) (g := g_is_task_row) F sc_is_task_row (fun cdv A outer s H E hr rc => by
    have hu := hr.units
    exact ⟨_, (dss_cons (ds_if (DW.dt (dw_or (dt_not (dt_val (kde_isi K (T := "tuple") (db_var 0) T.f_isinstance T.f_tuple (by decide +kernel)))) (dw_or1 (dt_cmp (kop_neD K hu) s_ne (DE.toB (m := false) (de_callB (kcall_len K) (kc_len K) (db_var 0) T.f_len PySem.boot_len)) (DE.toB (m := false) de_int))))) (dss_one (ds_ret de_bl)) dss_nil)
    (dss_one (ds_ret (de_and (kde_callP K (k := 3) h_is_row (hr.mono (by decide)) (fun _ => RpAll.nil) (da_cons (kde_ix K (db_var 0) (DE.toB (m := false) de_int)) (da_cons (de_var 1) da_nil))) (de_and (kde_callP K (k := 2) h_is_small (hr.mono (by decide)) (fun _ => RpAll.nil) (da_cons (kde_ix K (db_var 0) (DE.toB (m := false) de_int)) da_nil)) (de_one (kde_callP K (k := 2) h_is_small (hr.mono (by decide)) (fun _ => RpAll.nil) (da_cons (kde_ix K (db_var 0) (DE.toB (m := false) de_int)) da_nil))))))))⟩)
  have b : Binds K fd ["value", "wide"] [] := F.bindsN fun _ _ _ _ _ _ us hl => match us, hl with | [_, _], _ => rfl
  exact ⟨_, fd, _, _, okP_of ok, T.g_is_task_row, F.kp, b, .nil⟩
end WK


namespace WK
open PySem PySem.Spec PyProof.Rows L2 DL PG
variable {P : Program} {w : World} {K : PySem.W.Frag} {mg : Str → Option Value} {base : Heap}
theorem ok_need_task (T : Top K mg) (h_is_row : Has P w K mg base "is_row" 3 [] (spP K F_is_row)) (h_is_turned : Has P w K mg base "is_turned" 1 [] (spP K F_is_turned)) (h_is_above : Has P w K mg base "is_above" 37 [] (spP K F_is_above)) (h_is_task_row : Has P w K mg base "is_task_row" 4 [] (spP K F_is_task_row)) : Has P w K mg base "need_task" 38 [] (spP K F_need_task) := by
  obtain ⟨fd, F⟩ := T.d_need_task
  have ok := def_okG (P := P) (w := w) (mg := mg) (base := base) (k := 37) (N := N_need_task) (ps := ["value"]) (g := g_need_task) F sc_need_task (fun cdv A outer s H E hr rc => by
    have hu := hr.units
    exact ⟨_, (dss_cons (ds_if (DW.dt (dw_or (dt_not (dt_val (kde_isi K (T := "tuple") (db_var 0) T.f_isinstance T.f_tuple (by decide +kernel)))) (dw_or1 (dt_cmp (kop_neD K hu) s_ne (DE.toB (m := false) (de_callB (kcall_len K) (kc_len K) (db_var 0) T.f_len PySem.boot_len)) (DE.toB (m := false) de_int))))) (dss_one ds_never) dss_nil)
    (dss_cons (ds_asg (de_var 0) (DG.toX (vs := [1, 2, 3, 4]) (kdg_tup K rfl (dgs_cons (dg_name (i := 1) sc_need_task.nd (by decide)) (dgs_cons (dg_name (i := 2) sc_need_task.nd (by decide)) (dgs_cons (dg_name (i := 3) sc_need_task.nd (by decide)) (dgs_cons (dg_name (i := 4) sc_need_task.nd (by decide)) dgs_nil)))))))
    (dss_cons (ds_if (DW.dt (dw_or (dt_not (dt_val (kde_isi K (T := "tuple") (db_var 1) T.f_isinstance T.f_tuple (by decide +kernel)))) (dw_or1 (dt_not (dt_chain op_le s_le op_le s_le (DE.toB (m := false) de_int) (DE.toB (m := false) (de_callB (kcall_len K) (kc_len K) (db_var 1) T.f_len PySem.boot_len)) (DE.toB (m := false) (de_glob T.c_MOST_WIDE))))))) (dss_one ds_never) dss_nil)
    (dss_cons (ds_set (i := 5) sc_need_task.nd (de_callB (kcall_len K) (kc_len K) (db_var 1) T.f_len PySem.boot_len))
    (dss_cons (ds_if (DW.dt (dw_or (dt_not (dt_val (de_callB (kcr_all K rfl) c_all (DE.toB (m := false) (DF.toE (df_lc (own := [("row", 6)]) rfl sc_need_task.nd (kdi_seq K (db_var 1)) (blkOk_by (own := [("row", 6)]) (N := N_need_task) (sc := defScope s_need_task) (by decide +kernel)) (fun _ _ _ _ _ => (dg_name (i := 6) sc_need_task.nd (by decide))) (fun _ _ _ _ _ => dts_nil) (fun _ _ _ _ _ => (kde_callP K (k := 3) h_is_row (hr.mono (by decide)) (fun _ => RpAll.nil) (da_cons (de_var 6) (da_cons (de_var 5) da_nil))))))) T.f_all PyProof.Rows.boot_all))) (dw_or (dt_not (dt_val (kde_callP K (k := 1) h_is_turned (hr.mono (by decide)) (fun _ => RpAll.nil) (da_cons (de_var 1) da_nil)))) (dw_or1 (dt_not (dt_val (kde_callP K (k := 37) h_is_above (hr.mono (by decide)) (fun _ => RpAll.nil) (da_cons (de_var 1) da_nil)))))))) (dss_one ds_never) dss_nil)
    (dss_cons (ds_if (dt_not (dt_val (kde_callP K (k := 3) h_is_row (hr.mono (by decide)) (fun _ => RpAll.nil) (da_cons (de_var 2) (da_cons (de_var 5) da_nil))))) (dss_one ds_never) dss_nil)
    (dss_cons (ds_if (dt_not (dt_val (kde_callP K (k := 3) h_is_row (hr.mono (by decide)) (fun _ => RpAll.nil) (da_cons (de_var 3) (da_cons (de_var 5) da_nil))))) (dss_one ds_never) dss_nil)
    (dss_one (ds_if (DW.dt (dw_or (dt_not (dt_val (kde_isi K (T := "tuple") (db_var 4) T.f_isinstance T.f_tuple (by decide +kernel)))) (dw_or (dt_cmp op_gt s_gt (DE.toB (m := false) (de_callB (kcall_len K) (kc_len K) (db_var 4) T.f_len PySem.boot_len)) (DE.toB (m := false) (de_glob T.c_MOST_HIGH))) (dw_or1 (dt_not (dt_val (de_callB (kcr_all K rfl) c_all (DE.toB (m := false) (DF.toE (df_lc (own := [("row", 6)]) rfl sc_need_task.nd (kdi_seq K (db_var 4)) (blkOk_by (own := [("row", 6)]) (N := N_need_task) (sc := defScope s_need_task) (by decide +kernel)) (fun _ _ _ _ _ => (dg_name (i := 6) sc_need_task.nd (by decide))) (fun _ _ _ _ _ => dts_nil) (fun _ _ _ _ _ => (kde_callP K (k := 4) h_is_task_row (hr.mono (by decide)) (fun _ => RpAll.nil) (da_cons (de_var 6) (da_cons (de_var 5) da_nil))))))) T.f_all PyProof.Rows.boot_all))))))) (dss_one ds_never) dss_nil)))))))))⟩)
  have b : Binds K fd ["value"] [] := F.bindsN fun _ _ _ _ _ _ us hl => match us, hl with | [_], _ => rfl
  exact ⟨_, fd, _, _, okP_of ok, T.g_need_task, F.kp, b, .nil⟩
end WK


namespace WK
open PySem PySem.Spec PyProof.Rows L2 DL PG
variable {P : Program} {w : World} {K : PySem.W.Frag} {mg : Str → Option Value} {base : Heap}
theorem ok_need_share (T : Top K mg) (h_is_fraction : Has P w K mg base "is_fraction" 2 [] (spP K F_is_fraction)) : Has P w K mg base "need_share" 3 [] (spP K F_need_share) := by
  obtain ⟨fd, F⟩ := T.d_need_share
  have ok := def_okG (P := P) (w := w) (mg := mg) (base := base) (k := 2) (N := N_need_share) (ps := ["value"]) (g := g_need_share) F sc_need_share (fun cdv A outer s H E hr rc => by
    have hu := hr.units
    exact ⟨_, (dss_one (ds_if (dt_not (dt_val (kde_callP K (k := 2) h_is_fraction (hr.mono (by decide)) (fun _ => RpAll.nil) (da_cons (de_var 0) da_nil)))) (dss_one ds_never) dss_nil))⟩)
  have b : Binds K fd ["value"] [] := F.bindsN fun _ _ _ _ _ _ us hl => match us, hl with | [_], _ => rfl
  exact ⟨_, fd, _, _, okP_of ok, T.g_need_share, F.kp, b, .nil⟩
end WK


namespace WK
open PySem PySem.Spec PyProof.Rows L2 DL PG
variable {P : Program} {w : World} {K : PySem.W.Frag} {mg : Str → Option Value} {base : Heap}
theorem ok_need_plan (T : Top K mg) (h_is_fraction : Has P w K mg base "is_fraction" 2 [] (spP K F_is_fraction)) : Has P w K mg base "need_plan" 3 [] (spP K F_need_plan) := by
  obtain ⟨fd, F⟩ := T.d_need_plan
  have ok := def_okG (P := P) (w := w) (mg := mg) (base := base) (k := 2) (N := N_need_plan) (ps := ["value", "many"]) (g := g_need_plan) F sc_need_plan (fun cdv A outer s H E hr rc => by
    have hu := hr.units
    exact ⟨_, (dss_one (ds_if (DW.dt (dw_or (dt_not (dt_val (kde_isi K (T := "tuple") (db_var 0) T.f_isinstance T.f_tuple (by decide +kernel)))) (dw_or (dt_cmp (kop_neD K hu) s_ne (DE.toB (m := false) (de_callB (kcall_len K) (kc_len K) (db_var 0) T.f_len PySem.boot_len)) (db_var 1)) (dw_or1 (dt_not (dt_val (de_callB (kcr_all K rfl) c_all (DE.toB (m := false) (DF.toE (df_lc (own := [("one", 2)]) rfl sc_need_plan.nd (kdi_seq K (db_var 0)) (blkOk_by (own := [("one", 2)]) (N := N_need_plan) (sc := defScope s_need_plan) (by decide +kernel)) (fun _ _ _ _ _ => (dg_name (i := 2) sc_need_plan.nd (by decide))) (fun _ _ _ _ _ => dts_nil) (fun _ _ _ _ _ => (kde_callP K (k := 2) h_is_fraction (hr.mono (by decide)) (fun _ => RpAll.nil) (da_cons (de_var 2) da_nil)))))) T.f_all PyProof.Rows.boot_all))))))) (dss_one ds_never) dss_nil))⟩)
  have b : Binds K fd ["value", "many"] [] := F.bindsN fun _ _ _ _ _ _ us hl => match us, hl with | [_, _], _ => rfl
  exact ⟨_, fd, _, _, okP_of ok, T.g_need_plan, F.kp, b, .nil⟩
end WK


namespace WK
open PySem PySem.Spec PyProof.Rows L2 DL PG
variable {P : Program} {w : World} {K : PySem.W.Frag} {mg : Str → Option Value} {base : Heap}
theorem ok_costs_at (T : Top K mg) (h_plus : Has P w K mg base "plus" 35 [] (spP K F_plus)) (h_times : Has P w K mg base "times" 35 [] (spP K F_times)) : Has P w K mg base "costs_at" 36 [] (spP K F_costs_at) := by
  obtain ⟨fd, F⟩ := T.d_costs_at
  have ok := def_okG (P := P) (w := w) (mg := mg) (base := base) (k := 35) (N := N_costs_at) (ps := ["task", "share"]) (g := g_costs_at) F sc_costs_at (fun cdv A outer s H E hr rc => by
    have hu := hr.units
    exact ⟨_, (dss_one (ds_ret (DF.toE (df_lc (own := [("cost", 2), ("more", 3)]) rfl sc_costs_at.nd (kdi_zip2 K T.f_zip (DE.toB (m := false) (kde_ix K (db_var 0) (DE.toB (m := false) de_int))) (DE.toB (m := false) (kde_ix K (db_var 0) (DE.toB (m := false) de_int)))) (blkOk_by (own := [("cost", 2), ("more", 3)]) (N := N_costs_at) (sc := defScope s_costs_at) (by decide +kernel)) (fun _ _ _ _ _ => (kdg_tup K rfl (dgs_cons (dg_name (i := 2) sc_costs_at.nd (by decide)) (dgs_cons (dg_name (i := 3) sc_costs_at.nd (by decide)) dgs_nil)))) (fun _ _ _ _ _ => dts_nil) (fun _ _ _ _ _ => (kde_callP K (k := 35) h_plus (hr.mono (by decide)) (fun _ => RpAll.nil) (da_cons (de_tup (da_cons (de_var 2) (da_cons de_int da_nil))) (da_cons (kde_callP K (k := 35) h_times (hr.mono (by decide)) (fun _ => RpAll.nil) (da_cons (de_tup (da_cons (de_var 3) (da_cons de_int da_nil))) (da_cons (de_var 1) da_nil))) da_nil))))))))⟩)
  have b : Binds K fd ["task", "share"] [] := F.bindsN fun _ _ _ _ _ _ us hl => match us, hl with | [_, _], _ => rfl
  exact ⟨_, fd, _, _, okP_of ok, T.g_costs_at, F.kp, b, .nil⟩
end WK


namespace WK
open PySem PySem.Spec PyProof.Rows L2 DL PG
variable {P : Program} {w : World} {K : PySem.W.Frag} {mg : Str → Option Value} {base : Heap}
theorem ok_rights_at (T : Top K mg) (h_plus : Has P w K mg base "plus" 35 [] (spP K F_plus)) (h_times : Has P w K mg base "times" 35 [] (spP K F_times)) : Has P w K mg base "rights_at" 36 [] (spP K F_rights_at) := by
  obtain ⟨fd, F⟩ := T.d_rights_at
  have ok := def_okG (P := P) (w := w) (mg := mg) (base := base) (k := 35) (N := N_rights_at) (ps := ["task", "share"]) (g := g_rights_at) F sc_rights_at (fun cdv A outer s H E hr rc => by
    have hu := hr.units
    exact ⟨_, (dss_one (ds_ret (DF.toE (df_lc (own := [("row", 2)]) rfl sc_rights_at.nd (kdi_seq K (DE.toB (m := false) (kde_ix K (db_var 0) (DE.toB (m := false) de_int)))) (blkOk_by (own := [("row", 2)]) (N := N_rights_at) (sc := defScope s_rights_at) (by decide +kernel)) (fun _ _ _ _ _ => (dg_name (i := 2) sc_rights_at.nd (by decide))) (fun _ _ _ _ _ => dts_nil) (fun _ _ _ _ _ => (kde_callP K (k := 35) h_plus (hr.mono (by decide)) (fun _ => RpAll.nil) (da_cons (de_tup (da_cons (kde_ix K (db_var 2) (DE.toB (m := false) de_int)) (da_cons de_int da_nil))) (da_cons (kde_callP K (k := 35) h_times (hr.mono (by decide)) (fun _ => RpAll.nil) (da_cons (de_tup (da_cons (kde_ix K (db_var 2) (DE.toB (m := false) de_int)) (da_cons de_int da_nil))) (da_cons (de_var 1) da_nil))) da_nil))))))))⟩)
  have b : Binds K fd ["task", "share"] [] := F.bindsN fun _ _ _ _ _ _ us hl => match us, hl with | [_, _], _ => rfl
  exact ⟨_, fd, _, _, okP_of ok, T.g_rights_at, F.kp, b, .nil⟩
end WK


namespace WK
open PySem PySem.Spec PyProof.Rows L2 DL PG
variable {P : Program} {w : World} {K : PySem.W.Frag} {mg : Str → Option Value} {base : Heap}
theorem ok_slope_of (T : Top K mg) (h_added1 : Has P w K mg base "added" 36 [.ref (He.dflAt ("added", none) 0 K)] (spP K F_added)) (h_costs_at : Has P w K mg base "costs_at" 36 [] (spP K F_costs_at)) (h_inner : Has P w K mg base "inner" 36 [] (spP K F_inner)) : Has P w K mg base "slope_of" 37 [] (spP K F_slope_of) := by
  obtain ⟨fd, F⟩ := T.d_slope_of
  have ok := def_okG (P := P) (w := w) (mg := mg) (base := base) (k := 36) (N := N_slope_of) (ps := ["task", "share", "plan"]) (g := g_slope_of) F sc_slope_of (fun cdv A outer s H E hr rc => by
    have hu := hr.units
    exact ⟨_, (dss_one (ds_ret (kde_callP K (k := 36) h_added1 (hr.mono (by decide)) T.dfl_added (da_cons (DF.toE (df_lc (own := [("row", 3)]) rfl sc_slope_of.nd (kdi_seq K (DE.toB (m := false) (kde_ix K (db_var 0) (DE.toB (m := false) de_int)))) (blkOk_by (own := [("row", 3)]) (N := N_slope_of) (sc := defScope s_slope_of) (by decide +kernel)) (fun _ _ _ _ _ => (dg_name (i := 3) sc_slope_of.nd (by decide))) (fun _ _ _ _ _ => dts_nil) (fun _ _ _ _ _ => (kde_callP K (k := 36) h_inner (hr.mono (by decide)) (fun _ => RpAll.nil) (da_cons (de_var 3) (da_cons (de_var 2) da_nil)))))) (da_cons (kde_callP K (k := 36) h_costs_at (hr.mono (by decide)) (fun _ => RpAll.nil) (da_cons (de_var 0) (da_cons (de_var 1) da_nil))) da_nil)))))⟩)
  have b : Binds K fd ["task", "share", "plan"] [] := F.bindsN fun _ _ _ _ _ _ us hl => match us, hl with | [_, _, _], _ => rfl
  exact ⟨_, fd, _, _, okP_of ok, T.g_slope_of, F.kp, b, .nil⟩
end WK


namespace WK
open PySem PySem.Spec PyProof.Rows L2 DL PG
variable {P : Program} {w : World} {K : PySem.W.Frag} {mg : Str → Option Value} {base : Heap}
theorem ok_worth_of (T : Top K mg) (h_costs_at : Has P w K mg base "costs_at" 36 [] (spP K F_costs_at)) (h_plus : Has P w K mg base "plus" 35 [] (spP K F_plus)) (h_times : Has P w K mg base "times" 35 [] (spP K F_times)) (h_over : Has P w K mg base "over" 35 [] (spP K F_over)) (h_inner : Has P w K mg base "inner" 36 [] (spP K F_inner)) : Has P w K mg base "worth_of" 37 [] (spP K F_worth_of) := by
  obtain ⟨fd, F⟩ := T.d_worth_of
  have ok := def_okG (P := P) (w := w) (mg := mg) (base := base) (k := 36) (N := N_worth_of) (ps := ["task", "share", "plan"]) (g := g_worth_of) F sc_worth_of (fun cdv A outer s H E hr rc => by
    have hu := hr.units
    exact ⟨_, (dss_cons (ds_set (i := 3) sc_worth_of.nd (de_glob T.c_NOUGHT))
    (dss_cons (ds_for (vs := [4, 5, 6]) PassesOwn.never rfl (kdi_zip3 K T.f_zip (db_varS 2) (DE.toB (m := true) (kde_ix K (db_var 0) (DE.toB (m := false) de_int))) (DE.toB (m := true) (kde_callP K (k := 36) h_costs_at (hr.mono (by decide)) (fun _ => RpAll.nil) (da_cons (de_var 0) (da_cons (de_var 1) da_nil))))) (kdg_tup K rfl (dgs_cons (dg_name (i := 4) sc_worth_of.nd (by decide)) (dgs_cons (dg_name (i := 5) sc_worth_of.nd (by decide)) (dgs_cons (dg_name (i := 6) sc_worth_of.nd (by decide)) dgs_nil)))) (dss_one (ds_set (i := 3) sc_worth_of.nd (kde_callP K (k := 35) h_plus (hr.mono (by decide)) (fun _ => RpAll.nil) (da_cons (de_var 3) (da_cons (kde_callP K (k := 35) h_times (hr.mono (by decide)) (fun _ => RpAll.nil) (da_cons (de_var 4) (da_cons (kde_callP K (k := 35) h_plus (hr.mono (by decide)) (fun _ => RpAll.nil) (da_cons (kde_callP K (k := 35) h_over (hr.mono (by decide)) (fun _ => RpAll.nil) (da_cons (kde_callP K (k := 36) h_inner (hr.mono (by decide)) (fun _ => RpAll.nil) (da_cons (de_var 5) (da_cons (de_var 2) da_nil))) (da_cons (de_tup (da_cons de_int (da_cons de_int da_nil))) da_nil))) (da_cons (de_var 6) da_nil))) da_nil))) da_nil))))))
    (dss_one (ds_ret (de_var 3)))))⟩)
  have b : Binds K fd ["task", "share", "plan"] [] := F.bindsN fun _ _ _ _ _ _ us hl => match us, hl with | [_, _, _], _ => rfl
  exact ⟨_, fd, _, _, okP_of ok, T.g_worth_of, F.kp, b, .nil⟩
end WK


namespace WK
open PySem PySem.Spec PyProof.Rows L2 DL PG
variable {P : Program} {w : World} {K : PySem.W.Frag} {mg : Str → Option Value} {base : Heap}
theorem ok_gaps_of (T : Top K mg) (h_rights_at : Has P w K mg base "rights_at" 36 [] (spP K F_rights_at)) (h_less : Has P w K mg base "less" 35 [] (spP K F_less)) (h_inner : Has P w K mg base "inner" 36 [] (spP K F_inner)) : Has P w K mg base "gaps_of" 37 [] (spP K F_gaps_of) := by
  obtain ⟨fd, F⟩ := T.d_gaps_of
  have ok := def_okG (P := P) (w := w) (mg := mg) (base := base) (k := 36) (N := N_gaps_of) (ps := ["task", "share", "plan"]) (g := g_gaps_of) F sc_gaps_of (fun cdv A outer s H E hr rc => by
    have hu := hr.units
    exact ⟨_, (dss_one (ds_ret (DF.toE (df_lc (own := [("row", 3), ("right", 4)]) rfl sc_gaps_of.nd (kdi_zip2 K T.f_zip (DE.toB (m := false) (kde_ix K (db_var 0) (DE.toB (m := false) de_int))) (DE.toB (m := false) (kde_callP K (k := 36) h_rights_at (hr.mono (by decide)) (fun _ => RpAll.nil) (da_cons (de_var 0) (da_cons (de_var 1) da_nil))))) (blkOk_by (own := [("row", 3), ("right", 4)]) (N := N_gaps_of) (sc := defScope s_gaps_of) (by decide +kernel)) (fun _ _ _ _ _ => (kdg_tup K rfl (dgs_cons (dg_name (i := 3) sc_gaps_of.nd (by decide)) (dgs_cons (dg_name (i := 4) sc_gaps_of.nd (by decide)) dgs_nil)))) (fun _ _ _ _ _ => dts_nil) (fun _ _ _ _ _ => (kde_callP K (k := 35) h_less (hr.mono (by decide)) (fun _ => RpAll.nil) (da_cons (kde_callP K (k := 36) h_inner (hr.mono (by decide)) (fun _ => RpAll.nil) (da_cons (kde_ix K (db_var 3) (DE.toB (m := false) de_int)) (da_cons (de_var 2) da_nil))) (da_cons (de_var 4) da_nil))))))))⟩)
  have b : Binds K fd ["task", "share", "plan"] [] := F.bindsN fun _ _ _ _ _ _ us hl => match us, hl with | [_, _, _], _ => rfl
  exact ⟨_, fd, _, _, okP_of ok, T.g_gaps_of, F.kp, b, .nil⟩
end WK


namespace WK
open PySem PySem.Spec PyProof.Rows L2 DL PG
variable {P : Program} {w : World} {K : PySem.W.Frag} {mg : Str → Option Value} {base : Heap}
theorem ok_keeps (T : Top K mg) (h_gaps_of : Has P w K mg base "gaps_of" 37 [] (spP K F_gaps_of)) : Has P w K mg base "keeps" 38 [] (spP K F_keeps) := by
  obtain ⟨fd, F⟩ := T.d_keeps
  have ok := def_okG (P := P) (w := w) (mg := mg) (base := base) (k := 37) (N := N_keeps) (ps := ["task", "share", "plan"]) (g := g_keeps) F sc_keeps (fun cdv A outer s H E hr rc => by
    have hu := hr.units
    exact ⟨_, (dss_one (ds_ret (de_callB (kcr_all K rfl) c_all (DE.toB (m := false) (DF.toE (df_lc (own := [("gap", 3)]) rfl sc_keeps.nd (kdi_seq K (DE.toB (m := false) (kde_callP K (k := 37) h_gaps_of (hr.mono (by decide)) (fun _ => RpAll.nil) (da_cons (de_var 0) (da_cons (de_var 1) (da_cons (de_var 2) da_nil)))))) (blkOk_by (own := [("gap", 3)]) (N := N_keeps) (sc := defScope s_keeps) (by decide +kernel)) (fun _ _ _ _ _ => (dg_name (i := 3) sc_keeps.nd (by decide))) (fun _ _ _ _ _ => dts_nil) (fun _ _ _ _ _ => (de_cmp op_ge s_ge (DE.toB (m := false) (kde_ix K (db_var 3) (DE.toB (m := false) de_int))) (DE.toB (m := false) de_int)))))) T.f_all PyProof.Rows.boot_all)))⟩)
  have b : Binds K fd ["task", "share", "plan"] [] := F.bindsN fun _ _ _ _ _ _ us hl => match us, hl with | [_, _, _], _ => rfl
  exact ⟨_, fd, _, _, okP_of ok, T.g_keeps, F.kp, b, .nil⟩
end WK


namespace WK
open PySem PySem.Spec PyProof.Rows L2 DL PG
variable {P : Program} {w : World} {K : PySem.W.Frag} {mg : Str → Option Value} {base : Heap}
theorem ok_sum_of_rows (T : Top K mg) (h_added : Has P w K mg base "added" 36 [] (spP K F_added)) : Has P w K mg base "sum_of_rows" 37 [] (spP K F_sum_of_rows) := by
  obtain ⟨fd, F⟩ := T.d_sum_of_rows
  have ok := def_okG (P := P) (w := w) (mg := mg) (base := base) (k := 36) (N := N_sum_of_rows) (ps := ["task", "weights"]) (g := g_sum_of_rows) F sc_sum_of_rows (fun cdv A outer s H E hr rc => by
    have hu := hr.units
    exact ⟨_, (dss_cons (ds_set (i := 2) sc_sum_of_rows.nd (DF.toE (df_op op_rep f_rep (DE.toB (m := false) (DF.toE (df_lst (da_cons (de_glob T.c_NOUGHT) da_nil)))) (DE.toB (m := false) (de_callB (kcall_len K) (kc_len K) (DE.toB (m := false) (kde_ix K (db_var 0) (DE.toB (m := false) de_int))) T.f_len PySem.boot_len)))))
    (dss_cons (ds_for (vs := [3, 4]) PassesOwn.never rfl (kdi_zip2 K T.f_zip (DE.toB (m := true) (kde_ix K (db_var 0) (DE.toB (m := false) de_int))) (db_varS 1)) (kdg_tup K rfl (dgs_cons (dg_name (i := 3) sc_sum_of_rows.nd (by decide)) (dgs_cons (dg_name (i := 4) sc_sum_of_rows.nd (by decide)) dgs_nil))) (dss_one (ds_set (i := 2) sc_sum_of_rows.nd (kde_callP K (k := 36) h_added (hr.mono (by decide)) (fun _ => RpAll.nil) (da_cons (de_var 2) (da_cons (DF.toE (df_lc (own := [("one", 5)]) rfl sc_sum_of_rows.nd (kdi_seq K (DE.toB (m := false) (kde_ix K (db_var 3) (DE.toB (m := false) de_int)))) (blkOk_by (own := [("one", 5)]) (N := N_sum_of_rows) (sc := defScope s_sum_of_rows) (by decide +kernel)) (fun _ _ _ _ _ => (dg_name (i := 5) sc_sum_of_rows.nd (by decide))) (fun _ _ _ _ _ => dts_nil) (fun _ _ _ _ _ => (de_tup (da_cons (de_var 5) (da_cons de_int da_nil)))))) (da_cons (de_var 4) da_nil)))))))
    (dss_one (ds_ret (de_var 2)))))⟩)
  have b : Binds K fd ["task", "weights"] [] := F.bindsN fun _ _ _ _ _ _ us hl => match us, hl with | [_, _], _ => rfl
  exact ⟨_, fd, _, _, okP_of ok, T.g_sum_of_rows, F.kp, b, .nil⟩
end WK


namespace WK
open PySem PySem.Spec PyProof.Rows L2 DL PG
variable {P : Program} {w : World} {K : PySem.W.Frag} {mg : Str → Option Value} {base : Heap}
theorem ok_shows_of (T : Top K mg) (h_gaps_of : Has P w K mg base "gaps_of" 37 [] (spP K F_gaps_of)) (h_slope_of : Has P w K mg base "slope_of" 37 [] (spP K F_slope_of)) (h_sum_of_rows : Has P w K mg base "sum_of_rows" 37 [] (spP K F_sum_of_rows)) : Has P w K mg base "shows_of" 38 [] (spP K F_shows_of) := by
  obtain ⟨fd, F⟩ := T.d_shows_of
  have ok := def_okG (P := P) (w := w) (mg := mg) (base := base) (k := 37) (N := N_shows_of) (ps := ["task", "share", "plan", "weights"]) (g := g_shows_of) F sc_shows_of (fun cdv A outer s H E hr rc => by
    have hu := hr.units
    exact ⟨_, (dss_cons (ds_set (i := 4) sc_shows_of.nd (kde_callP K (k := 37) h_gaps_of (hr.mono (by decide)) (fun _ => RpAll.nil) (da_cons (de_var 0) (da_cons (de_var 1) (da_cons (de_var 2) da_nil)))))
    (dss_cons (ds_for (vs := [5, 6]) PassesOwn.never rfl (kdi_zip2 K T.f_zip (db_varS 4) (db_varS 3)) (kdg_tup K rfl (dgs_cons (dg_name (i := 5) sc_shows_of.nd (by decide)) (dgs_cons (dg_name (i := 6) sc_shows_of.nd (by decide)) dgs_nil))) (dss_one (ds_if (DW.dt (dw_or (dt_cmp op_lt s_lt (DE.toB (m := false) (kde_ix K (db_var 5) (DE.toB (m := false) de_int))) (DE.toB (m := false) de_int)) (dw_or (dt_cmp op_lt s_lt (DE.toB (m := false) (kde_ix K (db_var 6) (DE.toB (m := false) de_int))) (DE.toB (m := false) de_int)) (dw_or1 (DW.dt (dw_and (dt_cmp op_gt s_gt (DE.toB (m := false) (kde_ix K (db_var 6) (DE.toB (m := false) de_int))) (DE.toB (m := false) de_int)) (dw_and1 (dt_cmp op_gt s_gt (DE.toB (m := false) (kde_ix K (db_var 5) (DE.toB (m := false) de_int))) (DE.toB (m := false) de_int))))))))) (dss_one (ds_ret de_bl)) dss_nil)))
    (dss_one (ds_ret (de_cmp (kop_eqD K hu) s_eq (DE.toB (m := false) (kde_callP K (k := 37) h_slope_of (hr.mono (by decide)) (fun _ => RpAll.nil) (da_cons (de_var 0) (da_cons (de_var 1) (da_cons (de_var 2) da_nil))))) (DE.toB (m := false) (kde_callP K (k := 37) h_sum_of_rows (hr.mono (by decide)) (fun _ => RpAll.nil) (da_cons (de_var 0) (da_cons (de_var 3) da_nil)))))))))⟩)
  have b : Binds K fd ["task", "share", "plan", "weights"] [] := F.bindsN fun _ _ _ _ _ _ us hl => match us, hl with | [_, _, _, _], _ => rfl
  exact ⟨_, fd, _, _, okP_of ok, T.g_shows_of, F.kp, b, .nil⟩
end WK


namespace WK
open PySem PySem.Spec PyProof.Rows L2 DL PG
variable {P : Program} {w : World} {K : PySem.W.Frag} {mg : Str → Option Value} {base : Heap}
theorem ok_promise_of (T : Top K mg) (h_added : Has P w K mg base "added" 36 [] (spP K F_added)) (h_costs_at : Has P w K mg base "costs_at" 36 [] (spP K F_costs_at)) (h_sum_of_rows : Has P w K mg base "sum_of_rows" 37 [] (spP K F_sum_of_rows)) (h_solved : Has P w K mg base "solved" 37 [] (spP K F_solved)) (h_less : Has P w K mg base "less" 35 [] (spP K F_less)) (h_over : Has P w K mg base "over" 35 [] (spP K F_over)) (h_times : Has P w K mg base "times" 35 [] (spP K F_times)) (h_rights_at : Has P w K mg base "rights_at" 36 [] (spP K F_rights_at)) (h_plus : Has P w K mg base "plus" 35 [] (spP K F_plus)) : Has P w K mg base "promise_of" 38 [] (spP K F_promise_of) := by
  obtain ⟨fd, F⟩ := T.d_promise_of
  have ok := def_okG (P := P) (w := w) (mg := mg) (base := base) (k := 37) (N := N_promise_of) (ps := ["task", "share", "weights"]) (g := g_promise_of) F sc_promise_of (fun cdv A outer s H E hr rc => by
    have hu := hr.units
    exact ⟨_, (dss_cons (ds_set (i := 3) sc_promise_of.nd (kde_callP K (k := 36) h_added (hr.mono (by decide)) (fun _ => RpAll.nil) (da_cons (kde_callP K (k := 37) h_sum_of_rows (hr.mono (by decide)) (fun _ => RpAll.nil) (da_cons (de_var 0) (da_cons (de_var 2) da_nil))) (da_cons (kde_callP K (k := 36) h_costs_at (hr.mono (by decide)) (fun _ => RpAll.nil) (da_cons (de_var 0) (da_cons (de_var 1) da_nil))) (da_cons (de_tup (da_cons (de_neg (DE.toB (m := false) de_int)) (da_cons de_int da_nil))) da_nil)))))
    (dss_cons (ds_set (i := 4) sc_promise_of.nd (kde_ix K (DE.toB (m := false) (kde_callP K (k := 37) h_solved (hr.mono (by decide)) (fun _ => RpAll.nil) (da_cons (DF.toE (df_lc (own := [("row", 10)]) rfl sc_promise_of.nd (kdi_seq K (DE.toB (m := false) (kde_ix K (db_var 0) (DE.toB (m := false) de_int)))) (blkOk_by (own := [("row", 10)]) (N := N_promise_of) (sc := defScope s_promise_of) (by decide +kernel)) (fun _ _ _ _ _ => (dg_name (i := 10) sc_promise_of.nd (by decide))) (fun _ _ _ _ _ => dts_nil) (fun _ _ _ _ _ => (DF.toE (df_lc (own := [("one", 6)]) rfl sc_promise_of.nd (kdi_seq K (db_var 10)) (blkOk_by (own := [("one", 6)]) rfl) (fun _ _ _ _ _ => (dg_name (i := 6) sc_promise_of.nd (by decide))) (fun _ _ _ _ _ => dts_nil) (fun _ _ _ _ _ => (de_tup (da_cons (de_var 6) (da_cons de_int da_nil))))))))) (da_cons (DF.toE (df_lst (da_cons (de_var 3) da_nil))) da_nil)))) (DE.toB (m := false) de_int)))
    (dss_cons (ds_set (i := 5) sc_promise_of.nd (de_glob T.c_NOUGHT))
    (dss_cons (ds_for (vs := [6, 7]) PassesOwn.never rfl (kdi_zip2 K T.f_zip (db_varS 3) (db_varS 4)) (kdg_tup K rfl (dgs_cons (dg_name (i := 6) sc_promise_of.nd (by decide)) (dgs_cons (dg_name (i := 7) sc_promise_of.nd (by decide)) dgs_nil))) (dss_one (ds_set (i := 5) sc_promise_of.nd (kde_callP K (k := 35) h_less (hr.mono (by decide)) (fun _ => RpAll.nil) (da_cons (de_var 5) (da_cons (kde_callP K (k := 35) h_over (hr.mono (by decide)) (fun _ => RpAll.nil) (da_cons (kde_callP K (k := 35) h_times (hr.mono (by decide)) (fun _ => RpAll.nil) (da_cons (de_var 6) (da_cons (de_var 7) da_nil))) (da_cons (de_tup (da_cons de_int (da_cons de_int da_nil))) da_nil))) da_nil))))))
    (dss_cons (ds_for (vs := [8, 9]) PassesOwn.never rfl (kdi_zip2 K T.f_zip (DE.toB (m := true) (kde_callP K (k := 36) h_rights_at (hr.mono (by decide)) (fun _ => RpAll.nil) (da_cons (de_var 0) (da_cons (de_var 1) da_nil)))) (db_varS 2)) (kdg_tup K rfl (dgs_cons (dg_name (i := 8) sc_promise_of.nd (by decide)) (dgs_cons (dg_name (i := 9) sc_promise_of.nd (by decide)) dgs_nil))) (dss_one (ds_set (i := 5) sc_promise_of.nd (kde_callP K (k := 35) h_plus (hr.mono (by decide)) (fun _ => RpAll.nil) (da_cons (de_var 5) (da_cons (kde_callP K (k := 35) h_times (hr.mono (by decide)) (fun _ => RpAll.nil) (da_cons (de_var 8) (da_cons (de_var 9) da_nil))) da_nil))))))
    (dss_one (ds_ret (de_var 5))))))))⟩)
  have b : Binds K fd ["task", "share", "weights"] [] := F.bindsN fun _ _ _ _ _ _ us hl => match us, hl with | [_, _, _], _ => rfl
  exact ⟨_, fd, _, _, okP_of ok, T.g_promise_of, F.kp, b, .nil⟩
end WK


namespace WK
open PySem PySem.Spec PyProof.Rows L2 DL PG
variable {P : Program} {w : World} {K : PySem.W.Frag} {mg : Str → Option Value} {base : Heap}
theorem ok_need_both (T : Top K mg) (h_need_task : Has P w K mg base "need_task" 38 [] (spP K F_need_task)) (h_need_share : Has P w K mg base "need_share" 3 [] (spP K F_need_share)) : Has P w K mg base "need_both" 39 [] (spP K F_need_both) := by
  obtain ⟨fd, F⟩ := T.d_need_both
  have ok := def_okG (P := P) (w := w) (mg := mg) (base := base) (k := 38) (N := N_need_both) (ps := ["task", "share"]) (g := g_need_both) F sc_need_both (fun cdv A outer s H E hr rc => by
    have hu := hr.units
    exact ⟨_, (dss_cons (ds_expr (kde_callP K (k := 38) h_need_task (hr.mono (by decide)) (fun _ => RpAll.nil) (da_cons (de_var 0) da_nil)))
    (dss_one (ds_expr (kde_callP K (k := 3) h_need_share (hr.mono (by decide)) (fun _ => RpAll.nil) (da_cons (de_var 1) da_nil)))))⟩)
  have b : Binds K fd ["task", "share"] [] := F.bindsN fun _ _ _ _ _ _ us hl => match us, hl with | [_, _], _ => rfl
  exact ⟨_, fd, _, _, okP_of ok, T.g_need_both, F.kp, b, .nil⟩
end WK


namespace WK
open PySem PySem.Spec PyProof.Rows L2 DL PG
variable {P : Program} {w : World} {K : PySem.W.Frag} {mg : Str → Option Value} {base : Heap}
theorem ok_worth (T : Top K mg) (h_need_both : Has P w K mg base "need_both" 39 [] (spP K F_need_both)) (h_need_plan : Has P w K mg base "need_plan" 3 [] (spP K F_need_plan)) (h_worth_of : Has P w K mg base "worth_of" 37 [] (spP K F_worth_of)) : Has P w K mg base "worth" 40 [] (spP K F_worth) := by
  obtain ⟨fd, F⟩ := T.d_worth
  have ok := def_okG (P := P) (w := w) (mg := mg) (base := base) (k := 39) (N := N_worth) (ps := ["task", "share", "plan"]) (g := g_worth) F sc_worth (fun cdv A outer s H E hr rc => by
    have hu := hr.units
    exact ⟨_, (dss_cons (ds_expr (kde_callP K (k := 39) h_need_both (hr.mono (by decide)) (fun _ => RpAll.nil) (da_cons (de_var 0) (da_cons (de_var 1) da_nil))))
    (dss_cons (ds_expr (kde_callP K (k := 3) h_need_plan (hr.mono (by decide)) (fun _ => RpAll.nil) (da_cons (de_var 2) (da_cons (de_callB (kcall_len K) (kc_len K) (DE.toB (m := false) (kde_ix K (db_var 0) (DE.toB (m := false) de_int))) T.f_len PySem.boot_len) da_nil))))
    (dss_one (ds_ret (kde_callP K (k := 37) h_worth_of (hr.mono (by decide)) (fun _ => RpAll.nil) (da_cons (de_var 0) (da_cons (de_var 1) (da_cons (de_var 2) da_nil))))))))⟩)
  have b : Binds K fd ["task", "share", "plan"] [] := F.bindsN fun _ _ _ _ _ _ us hl => match us, hl with | [_, _, _], _ => rfl
  exact ⟨_, fd, _, _, okP_of ok, T.g_worth, F.kp, b, .nil⟩
end WK


namespace WK
open PySem PySem.Spec PyProof.Rows L2 DL PG
variable {P : Program} {w : World} {K : PySem.W.Frag} {mg : Str → Option Value} {base : Heap}
theorem ok_is_kept (T : Top K mg) (h_need_both : Has P w K mg base "need_both" 39 [] (spP K F_need_both)) (h_need_plan : Has P w K mg base "need_plan" 3 [] (spP K F_need_plan)) (h_keeps : Has P w K mg base "keeps" 38 [] (spP K F_keeps)) : Has P w K mg base "is_kept" 40 [] (spP K F_is_kept) := by
  obtain ⟨fd, F⟩ := T.d_is_kept
  have ok := def_okG (P := P) (w := w) (mg := mg) (base := base) (k := 39) (N := N_is_kept) (ps := ["task", "share", "plan"]) (g := g_is_kept) F sc_is_kept (fun cdv A outer s H E hr rc => by
    have hu := hr.units
    exact ⟨_, (dss_cons (ds_expr (kde_callP K (k := 39) h_need_both (hr.mono (by decide)) (fun _ => RpAll.nil) (da_cons (de_var 0) (da_cons (de_var 1) da_nil))))
    (dss_cons (ds_expr (kde_callP K (k := 3) h_need_plan (hr.mono (by decide)) (fun _ => RpAll.nil) (da_cons (de_var 2) (da_cons (de_callB (kcall_len K) (kc_len K) (DE.toB (m := false) (kde_ix K (db_var 0) (DE.toB (m := false) de_int))) T.f_len PySem.boot_len) da_nil))))
    (dss_one (ds_ret (kde_callP K (k := 38) h_keeps (hr.mono (by decide)) (fun _ => RpAll.nil) (da_cons (de_var 0) (da_cons (de_var 1) (da_cons (de_var 2) da_nil))))))))⟩)
  have b : Binds K fd ["task", "share", "plan"] [] := F.bindsN fun _ _ _ _ _ _ us hl => match us, hl with | [_, _, _], _ => rfl
  exact ⟨_, fd, _, _, okP_of ok, T.g_is_kept, F.kp, b, .nil⟩
end WK


namespace WK
open PySem PySem.Spec PyProof.Rows L2 DL PG
variable {P : Program} {w : World} {K : PySem.W.Frag} {mg : Str → Option Value} {base : Heap}
theorem ok_shows (T : Top K mg) (h_need_both : Has P w K mg base "need_both" 39 [] (spP K F_need_both)) (h_need_plan : Has P w K mg base "need_plan" 3 [] (spP K F_need_plan)) (h_shows_of : Has P w K mg base "shows_of" 38 [] (spP K F_shows_of)) : Has P w K mg base "shows" 40 [] (spP K F_shows) := by
  obtain ⟨fd, F⟩ := T.d_shows
  have ok := def_okG (P := P) (w := w) (mg := mg) (base := base) (k := 39) (N := N_shows) (ps := ["task", "share", "plan", "weights"]) (g := g_shows) F sc_shows (fun cdv A outer s H E hr rc => by
    have hu := hr.units
    exact ⟨_, (dss_cons (ds_expr (kde_callP K (k := 39) h_need_both (hr.mono (by decide)) (fun _ => RpAll.nil) (da_cons (de_var 0) (da_cons (de_var 1) da_nil))))
    (dss_cons (ds_expr (kde_callP K (k := 3) h_need_plan (hr.mono (by decide)) (fun _ => RpAll.nil) (da_cons (de_var 2) (da_cons (de_callB (kcall_len K) (kc_len K) (DE.toB (m := false) (kde_ix K (db_var 0) (DE.toB (m := false) de_int))) T.f_len PySem.boot_len) da_nil))))
    (dss_cons (ds_expr (kde_callP K (k := 3) h_need_plan (hr.mono (by decide)) (fun _ => RpAll.nil) (da_cons (de_var 3) (da_cons (de_callB (kcall_len K) (kc_len K) (DE.toB (m := false) (kde_ix K (db_var 0) (DE.toB (m := false) de_int))) T.f_len PySem.boot_len) da_nil))))
    (dss_one (ds_ret (kde_callP K (k := 38) h_shows_of (hr.mono (by decide)) (fun _ => RpAll.nil) (da_cons (de_var 0) (da_cons (de_var 1) (da_cons (de_var 2) (da_cons (de_var 3) da_nil))))))))))⟩)
  have b : Binds K fd ["task", "share", "plan", "weights"] [] := F.bindsN fun _ _ _ _ _ _ us hl => match us, hl with | [_, _, _, _], _ => rfl
  exact ⟨_, fd, _, _, okP_of ok, T.g_shows, F.kp, b, .nil⟩
end WK


namespace WK
open PySem PySem.Spec PyProof.Rows L2 DL PG
variable {P : Program} {w : World} {K : PySem.W.Frag} {mg : Str → Option Value} {base : Heap}
theorem ok_promise (T : Top K mg) (h_need_both : Has P w K mg base "need_both" 39 [] (spP K F_need_both)) (h_need_plan : Has P w K mg base "need_plan" 3 [] (spP K F_need_plan)) (h_promise_of : Has P w K mg base "promise_of" 38 [] (spP K F_promise_of)) : Has P w K mg base "promise" 40 [] (spP K F_promise) := by
  obtain ⟨fd, F⟩ := T.d_promise
  have ok := def_okG (P := P) (w := w) (mg := mg) (base := base) (k := 39) (N := N_promise) (ps := ["task", "share", "weights"]) (g := g_promise) F sc_promise (fun cdv A outer s H E hr rc => by
    have hu := hr.units
    exact ⟨_, (dss_cons (ds_expr (kde_callP K (k := 39) h_need_both (hr.mono (by decide)) (fun _ => RpAll.nil) (da_cons (de_var 0) (da_cons (de_var 1) da_nil))))
    (dss_cons (ds_expr (kde_callP K (k := 3) h_need_plan (hr.mono (by decide)) (fun _ => RpAll.nil) (da_cons (de_var 2) (da_cons (de_callB (kcall_len K) (kc_len K) (DE.toB (m := false) (kde_ix K (db_var 0) (DE.toB (m := false) de_int))) T.f_len PySem.boot_len) da_nil))))
    (dss_cons (ds_if (dt_val (de_callB (kcr_any K rfl) c_any (DE.toB (m := false) (DF.toE (df_lc (own := [("one", 3)]) rfl sc_promise.nd (kdi_seq K (db_var 2)) (blkOk_by (own := [("one", 3)]) (N := N_promise) (sc := defScope s_promise) (by decide +kernel)) (fun _ _ _ _ _ => (dg_name (i := 3) sc_promise.nd (by decide))) (fun _ _ _ _ _ => dts_nil) (fun _ _ _ _ _ => (de_cmp op_lt s_lt (DE.toB (m := false) (kde_ix K (db_var 3) (DE.toB (m := false) de_int))) (DE.toB (m := false) de_int)))))) T.f_any PyProof.Rows.boot_any)) (dss_one (ds_ret de_non)) dss_nil)
    (dss_one (ds_ret (kde_callP K (k := 38) h_promise_of (hr.mono (by decide)) (fun _ => RpAll.nil) (da_cons (de_var 0) (da_cons (de_var 1) (da_cons (de_var 2) da_nil)))))))))⟩)
  have b : Binds K fd ["task", "share", "weights"] [] := F.bindsN fun _ _ _ _ _ _ us hl => match us, hl with | [_, _, _], _ => rfl
  exact ⟨_, fd, _, _, okP_of ok, T.g_promise, F.kp, b, .nil⟩
end WK


namespace WK
open PySem PySem.Spec PyProof.Rows L2 DL PG
variable {P : Program} {w : World} {K : PySem.W.Frag} {mg : Str → Option Value} {base : Heap}
theorem ok_bars (T : Top K mg) (h_need_both : Has P w K mg base "need_both" 39 [] (spP K F_need_both)) (h_need_plan : Has P w K mg base "need_plan" 3 [] (spP K F_need_plan)) (h_sum_of_rows : Has P w K mg base "sum_of_rows" 37 [] (spP K F_sum_of_rows)) (h_rights_at : Has P w K mg base "rights_at" 36 [] (spP K F_rights_at)) (h_plus : Has P w K mg base "plus" 35 [] (spP K F_plus)) (h_times : Has P w K mg base "times" 35 [] (spP K F_times)) : Has P w K mg base "bars" 40 [] (spP K F_bars) := by
  obtain ⟨fd, F⟩ := T.d_bars
  have ok := def_okG (P := P) (w := w) (mg := mg) (base := base) (k := 39) (N := N_bars) (ps := ["task", "share", "weights"]) (g := g_bars) F sc_bars (fun cdv A outer s H E hr rc => by
    have hu := hr.units
    exact ⟨_, (dss_cons (ds_expr (kde_callP K (k := 39) h_need_both (hr.mono (by decide)) (fun _ => RpAll.nil) (da_cons (de_var 0) (da_cons (de_var 1) da_nil))))
    (dss_cons (ds_expr (kde_callP K (k := 3) h_need_plan (hr.mono (by decide)) (fun _ => RpAll.nil) (da_cons (de_var 2) (da_cons (de_callB (kcall_len K) (kc_len K) (DE.toB (m := false) (kde_ix K (db_var 0) (DE.toB (m := false) de_int))) T.f_len PySem.boot_len) da_nil))))
    (dss_cons (ds_if (DW.dt (dw_or (dt_val (de_callB (kcr_any K rfl) c_any (DE.toB (m := false) (DF.toE (df_lc (own := [("one", 6)]) rfl sc_bars.nd (kdi_seq K (db_var 2)) (blkOk_by (own := [("one", 6)]) (N := N_bars) (sc := defScope s_bars) (by decide +kernel)) (fun _ _ _ _ _ => (dg_name (i := 6) sc_bars.nd (by decide))) (fun _ _ _ _ _ => dts_nil) (fun _ _ _ _ _ => (de_cmp op_lt s_lt (DE.toB (m := false) (kde_ix K (db_var 6) (DE.toB (m := false) de_int))) (DE.toB (m := false) de_int)))))) T.f_any PyProof.Rows.boot_any)) (dw_or1 (dt_val (de_callB (kcr_any K rfl) c_any (DE.toB (m := false) (DF.toE (df_lc (own := [("one", 6)]) rfl sc_bars.nd (kdi_seq K (DE.toB (m := false) (kde_callP K (k := 37) h_sum_of_rows (hr.mono (by decide)) (fun _ => RpAll.nil) (da_cons (de_var 0) (da_cons (de_var 2) da_nil))))) (blkOk_by (own := [("one", 6)]) (N := N_bars) (sc := defScope s_bars) (by decide +kernel)) (fun _ _ _ _ _ => (dg_name (i := 6) sc_bars.nd (by decide))) (fun _ _ _ _ _ => dts_nil) (fun _ _ _ _ _ => (de_cmp (kop_neD K hu) s_ne (DE.toB (m := false) (kde_ix K (db_var 6) (DE.toB (m := false) de_int))) (DE.toB (m := false) de_int)))))) T.f_any PyProof.Rows.boot_any))))) (dss_one (ds_ret de_bl)) dss_nil)
    (dss_cons (ds_set (i := 3) sc_bars.nd (de_glob T.c_NOUGHT))
    (dss_cons (ds_for (vs := [4, 5]) PassesOwn.never rfl (kdi_zip2 K T.f_zip (DE.toB (m := true) (kde_callP K (k := 36) h_rights_at (hr.mono (by decide)) (fun _ => RpAll.nil) (da_cons (de_var 0) (da_cons (de_var 1) da_nil)))) (db_varS 2)) (kdg_tup K rfl (dgs_cons (dg_name (i := 4) sc_bars.nd (by decide)) (dgs_cons (dg_name (i := 5) sc_bars.nd (by decide)) dgs_nil))) (dss_one (ds_set (i := 3) sc_bars.nd (kde_callP K (k := 35) h_plus (hr.mono (by decide)) (fun _ => RpAll.nil) (da_cons (de_var 3) (da_cons (kde_callP K (k := 35) h_times (hr.mono (by decide)) (fun _ => RpAll.nil) (da_cons (de_var 4) (da_cons (de_var 5) da_nil))) da_nil))))))
    (dss_one (ds_ret (de_cmp op_gt s_gt (DE.toB (m := false) (kde_ix K (db_var 3) (DE.toB (m := false) de_int))) (DE.toB (m := false) de_int)))))))))⟩)
  have b : Binds K fd ["task", "share", "weights"] [] := F.bindsN fun _ _ _ _ _ _ us hl => match us, hl with | [_, _, _], _ => rfl
  exact ⟨_, fd, _, _, okP_of ok, T.g_bars, F.kp, b, .nil⟩
end WK


namespace WK
open PySem PySem.Spec PyProof.Rows L2 DL PG
variable {P : Program} {w : World} {K : PySem.W.Frag} {mg : Str → Option Value} {base : Heap}
theorem ok_law_taken (T : Top K mg) (hS : base.NoSeer) (ht : P.given.tree = none)  : Has P w K mg base "_law_taken" 34 [] (spG K F_law_taken) := by
  obtain ⟨fd, F⟩ := T.d_law_taken
  have ok := def_okG (P := P) (w := w) (mg := mg) (base := base) (k := 33) (N := N_law_taken) (ps := ["_law_row", "_law_many"]) (g := g_law_taken) F sc_law_taken (fun cdv A outer s H E hr rc => by
    have hpy : PylongAt (cxOf CX0 P w K mg base N_law_taken "_law_taken" (defScope s_law_taken) (He.ga K "_law_taken") cdv A outer s H E).nox := pylong_of hS ht rfl rfl rfl rfl rfl hr (by decide); have hu := hr.units
    exact ⟨_, (dss_cons (ds_if (dt_cmp op_gt s_gt (DE.toB (m := false) (de_rowI (i := 0) (j := 3))) (DE.toB (m := false) de_int)) (dss_cons (ds_set (i := 2) sc_law_taken.nd (de_op op_modN s_mod (DE.toB (m := false) (de_callTy call_int1 c_int (DE.toB (m := false) (de_rowI (i := 0) (j := 3))) T.f_int PyProof.Rows.boot_int)) (db_var 1)))
    (dss_cons (ds_rowSet (i := 0) (j := 3) (de_op (op_divP hpy) s_div (DE.toB (m := false) (de_rowI (i := 0) (j := 3))) (db_var 1)))
    (dss_one (ds_ret (de_var 2))))) dss_nil)
    (dss_cons (ds_rowSet (i := 0) (j := 1) (de_op op_add s_add (DE.toB (m := false) (de_rowI (i := 0) (j := 1))) (DE.toB (m := false) de_int)))
    (dss_cons (ds_if (dt_cmp op_gt s_gt (DE.toB (m := false) (de_rowI (i := 0) (j := 1))) (DE.toB (m := false) (de_rowLen (i := 0) T.f_len))) (dss_cons (ds_rowSet (i := 0) (j := 2) (de_op op_modN s_mod (DE.toB (m := false) (de_callTy call_int1 c_int (DE.toB (m := false) (de_op op_add s_add (DE.toB (m := false) (de_op op_mulM s_mul (DE.toB (m := false) (de_rowI (i := 0) (j := 2))) (DE.toB (m := false) de_int))) (DE.toB (m := false) de_int))) T.f_int PyProof.Rows.boot_int)) (DE.toB (m := false) de_int)))
    (dss_one (ds_ret (de_op op_modN s_mod (DE.toB (m := false) (de_callTy call_int1 c_int (DE.toB (m := false) (de_op (op_divP hpy) s_div (DE.toB (m := false) (de_rowI (i := 0) (j := 2))) (DE.toB (m := false) de_int))) T.f_int PyProof.Rows.boot_int)) (db_var 1))))) dss_nil)
    (dss_cons (ds_set (i := 3) sc_law_taken.nd (de_rowCell (i := 0) (de_op op_sub s_sub (DE.toB (m := false) (de_rowI (i := 0) (j := 1))) (DE.toB (m := false) de_int))))
    (dss_cons (ds_rowSet (i := 0) (j := 2) (de_op op_modN s_mod (DE.toB (m := false) (de_callTy call_int1 c_int (DE.toB (m := false) (de_op op_add s_add (DE.toB (m := false) (de_op op_add s_add (DE.toB (m := false) (de_op op_mulM s_mul (DE.toB (m := false) (de_rowI (i := 0) (j := 2))) (DE.toB (m := false) de_int))) (db_var 3))) (DE.toB (m := false) de_int))) T.f_int PyProof.Rows.boot_int)) (DE.toB (m := false) de_int)))
    (dss_cons (ds_if (dt_cmp op_ge s_ge (db_var 3) (DE.toB (m := false) (de_op op_pow s_pow (DE.toB (m := false) de_int) (DE.toB (m := false) de_int)))) (dss_one (ds_rowSet (i := 0) (j := 3) (de_op (op_divP hpy) s_div (db_var 3) (db_var 1)))) dss_nil)
    (dss_one (ds_ret (de_op op_modN s_mod (DE.toB (m := false) (de_callTy call_int1 c_int (db_var 3) T.f_int PyProof.Rows.boot_int)) (db_var 1))))))))))⟩)
  have b : Binds K fd ["_law_row", "_law_many"] [] := F.bindsN fun _ _ _ _ _ _ us hl => match us, hl with | [_, _], _ => rfl
  exact ⟨_, fd, _, _, ok, T.g_law_taken, F.kp, b, .nil⟩
end WK


namespace WK
open PySem PySem.Spec PyProof.Rows L2 DL PG
variable {P : Program} {w : World} {K : PySem.W.Frag} {mg : Str → Option Value} {base : Heap}
theorem okr_law_alike (T : Top K mg)  : ∀ k, Has P w K mg base "_law_alike" (1 + k) [] (spP K (F_law_alike_ k)) := by
  obtain ⟨fd, F⟩ := T.d_law_alike
  have b : Binds K fd ["_law_found", "_law_due"] [] := F.bindsN fun _ _ _ _ _ _ us hl => match us, hl with | [_, _], _ => rfl
  intro k
  induction k with
  | zero => exact ⟨_, fd, _, _, ⟨fun vs H Q E h => (no_spP h).elim, fun _ _ _ _ _ _ _ _ _ _ _ _ _ h => (no_spP h).elim⟩, T.g_law_alike, F.kp, b, .nil⟩
  | succ k ih =>
    have ok := def_okG (P := P) (w := w) (mg := mg) (base := base) (k := 1 + k) (N := N_law_alike) (ps := ["_law_found", "_law_due"]) (g := (g_law_alike (F_law_alike_ k))) F sc_law_alike (fun cdv A outer s H E hr rc => by
      have hu := hr.units
      exact ⟨_, (dss_cons (ds_if (dt_val (kde_isiTL K (db_var 1) T.f_isinstance T.f_tuple T.f_list)) (dss_cons (ds_if (DW.dt (dw_or (dt_not (dt_val (kde_isiTL K (db_var 0) T.f_isinstance T.f_tuple T.f_list))) (dw_or1 (dt_cmp (kop_neD K hu) s_ne (DE.toB (m := false) (kde_isi K (T := "list") (db_var 0) T.f_isinstance T.f_list (by decide +kernel))) (DE.toB (m := false) (kde_isi K (T := "list") (db_var 1) T.f_isinstance T.f_list (by decide +kernel))))))) (dss_one (ds_ret de_bl)) dss_nil)
      (dss_cons (ds_if (dt_cmp (kop_neD K hu) s_ne (DE.toB (m := false) (de_callB (kcall_len K) (kc_len K) (db_var 0) T.f_len PySem.boot_len)) (DE.toB (m := false) (de_callB (kcall_len K) (kc_len K) (db_var 1) T.f_len PySem.boot_len))) (dss_one (ds_ret de_bl)) dss_nil)
      (dss_one (ds_ret (de_cmp (kop_eqD K hu) s_eq (DE.toB (m := false) (DF.toE (df_lc (own := [("_law_k", 2)]) rfl sc_law_alike.nd (di_range1 (m := false) T.f_range (de_callB (kcall_len K) (kc_len K) (db_var 1) T.f_len PySem.boot_len)) (blkOk_by (own := [("_law_k", 2)]) (N := N_law_alike) (sc := defScope s_law_alike) (by decide +kernel)) (fun _ _ _ _ _ => (dg_name (i := 2) sc_law_alike.nd (by decide))) (fun _ _ _ _ _ => (dts_one (dt_not (dt_val (kde_callP K (k := 1 + k) ih (hr.mono (by omega)) (fun _ => RpAll.nil) (da_cons (kde_ix K (db_var 0) (db_var 2)) (da_cons (kde_ix K (db_var 1) (db_var 2)) da_nil))))))) (fun _ _ _ _ _ => (de_var 2))))) (DE.toB (m := false) (DF.toE (df_lst da_nil)))))))) dss_nil)
      (dss_cons (ds_if (DW.dt (dw_or (dt_isN (db_var 1)) (dw_or1 (dt_val (kde_isi K (T := "str") (db_var 1) T.f_isinstance T.f_str (by decide +kernel)))))) (dss_one (ds_ret (de_and (de_cmp (kop_eqD K hu) s_eq (db_var 0) (db_var 1)) (de_one (de_cmp (kop_eqD K hu) s_eq (DE.toB (m := false) (kde_isi K (T := "str") (db_var 0) T.f_isinstance T.f_str (by decide +kernel))) (DE.toB (m := false) (kde_isi K (T := "str") (db_var 1) T.f_isinstance T.f_str (by decide +kernel)))))))) dss_nil)
      (dss_one (ds_ret (de_and (kde_isi K (T := "int") (db_var 0) T.f_isinstance T.f_int (by decide +kernel)) (de_and (de_cmp (kop_eqD K hu) s_eq (DE.toB (m := false) (kde_isi K (T := "bool") (db_var 0) T.f_isinstance T.f_bool (by decide +kernel))) (DE.toB (m := false) (kde_isi K (T := "bool") (db_var 1) T.f_isinstance T.f_bool (by decide +kernel)))) (de_one (de_cmp (kop_eqD K hu) s_eq (db_var 0) (db_var 1)))))))))⟩)
    exact ⟨_, fd, _, _, okP_of ok, T.g_law_alike, F.kp, b, .nil⟩
theorem ok_law_alike (T : Top K mg)  : Has P w K mg base "_law_alike" 9 [] (spP K F_law_alike) := okr_law_alike T  8

end WK


namespace WK
open PySem PySem.Spec PyProof.Rows L2 DL PG
variable {P : Program} {w : World} {K : PySem.W.Frag} {mg : Str → Option Value} {base : Heap}
theorem ok_law_is (T : Top K mg)  : Has P w K mg base "_law_is" 1 [] (spP K F_law_is) := by
  obtain ⟨fd, F⟩ := T.d_law_is
  have ok := def_okG (P := P) (w := w) (mg := mg) (base := base) (k := 0) (N := N_law_is) (ps := ["_law_found", "_law_due"]) (g := g_law_is) F sc_law_is (fun cdv A outer s H E hr rc => by
    have hu := hr.units
    exact ⟨_, (dss_one (ds_ret (de_and (kde_isi K (T := "bool") (db_var 0) T.f_isinstance T.f_bool (by decide +kernel)) (de_one (de_cmp (kop_eqD K hu) s_eq (db_var 0) (db_var 1))))))⟩)
  have b : Binds K fd ["_law_found", "_law_due"] [] := F.bindsN fun _ _ _ _ _ _ us hl => match us, hl with | [_, _], _ => rfl
  exact ⟨_, fd, _, _, okP_of ok, T.g_law_is, F.kp, b, .nil⟩
end WK


namespace WK
open PySem PySem.Spec PyProof.Rows L2 DL PG
variable {P : Program} {w : World} {K : PySem.W.Frag} {mg : Str → Option Value} {base : Heap}
theorem ok_law_fr (T : Top K mg) (hS : base.NoSeer) (ht : P.given.tree = none)  : Has P w K mg base "_law_fr" 34 [] (spP K F_law_fr) := by
  obtain ⟨fd, F⟩ := T.d_law_fr
  have ok := def_okG (P := P) (w := w) (mg := mg) (base := base) (k := 33) (N := N_law_fr) (ps := ["_law_top", "_law_low"]) (g := g_law_fr) F sc_law_fr (fun cdv A outer s H E hr rc => by
    have hpy : PylongAt (cxOf CX0 P w K mg base N_law_fr "_law_fr" (defScope s_law_fr) (He.ga K "_law_fr") cdv A outer s H E).nox := pylong_of hS ht rfl rfl rfl rfl rfl hr (by decide); have hu := hr.units
    exact ⟨_, (dss_cons (ds_par (i := 2) (j := 3) rfl sc_law_fr.nd (DE.v (de_callB2 (call_max2 rfl) c_max2 (db_var 0) (DE.toB (m := false) (de_op op_sub s_sub (DE.toB (m := false) de_int) (db_var 0))) T.f_max PyProof.Rows.boot_max)) (DE.v (de_callB2 (call_max2 rfl) c_max2 (db_var 1) (DE.toB (m := false) (de_op op_sub s_sub (DE.toB (m := false) de_int) (db_var 1))) T.f_max PyProof.Rows.boot_max)) (by decide))
    (dss_cons (ds_while fuel_law_fr PassesOwn.never (dt_cmp (kop_neD K hu) s_ne (db_var 3) (DE.toB (m := false) de_int)) (dss_one (ds_par (i := 2) (j := 3) rfl sc_law_fr.nd (DE.v (de_var 3)) (DE.v (de_op op_modN s_mod (db_var 2) (db_var 3))) (by decide))))
    (dss_cons (ds_set (i := 2) sc_law_fr.nd (de_if (dt_cmp op_gt s_gt (db_var 1) (DE.toB (m := false) de_int)) (de_var 2) (de_op op_sub s_sub (DE.toB (m := false) de_int) (db_var 2))))
    (dss_one (ds_ret (de_tup (da_cons (de_op (op_divP hpy) s_div (db_var 0) (db_var 2)) (da_cons (de_op (op_divP hpy) s_div (db_var 1) (db_var 2)) da_nil))))))))⟩)
  have b : Binds K fd ["_law_top", "_law_low"] [] := F.bindsN fun _ _ _ _ _ _ us hl => match us, hl with | [_, _], _ => rfl
  exact ⟨_, fd, _, _, okP_of ok, T.g_law_fr, F.kp, b, .nil⟩
end WK


namespace WK
open PySem PySem.Spec PyProof.Rows L2 DL PG
variable {P : Program} {w : World} {K : PySem.W.Frag} {mg : Str → Option Value} {base : Heap}
theorem ok_law_plus (T : Top K mg) (h_law_fr : Has P w K mg base "_law_fr" 34 [] (spP K F_law_fr)) : Has P w K mg base "_law_plus" 35 [] (spP K F_law_plus) := by
  obtain ⟨fd, F⟩ := T.d_law_plus
  have ok := def_okG (P := P) (w := w) (mg := mg) (base := base) (k := 34) (N := N_law_plus) (ps := ["_law_one", "_law_other"]) (g := g_law_plus) F sc_law_plus (fun cdv A outer s H E hr rc => by
    have hu := hr.units
    exact ⟨_, (dss_one (ds_ret (kde_callP K (k := 34) h_law_fr (hr.mono (by decide)) (fun _ => RpAll.nil) (da_cons (de_op op_add s_add (DE.toB (m := false) (de_op op_mulM s_mul (DE.toB (m := false) (kde_ix K (db_var 0) (DE.toB (m := false) de_int))) (DE.toB (m := false) (kde_ix K (db_var 1) (DE.toB (m := false) de_int))))) (DE.toB (m := false) (de_op op_mulM s_mul (DE.toB (m := false) (kde_ix K (db_var 1) (DE.toB (m := false) de_int))) (DE.toB (m := false) (kde_ix K (db_var 0) (DE.toB (m := false) de_int)))))) (da_cons (de_op op_mulM s_mul (DE.toB (m := false) (kde_ix K (db_var 0) (DE.toB (m := false) de_int))) (DE.toB (m := false) (kde_ix K (db_var 1) (DE.toB (m := false) de_int)))) da_nil)))))⟩)
  have b : Binds K fd ["_law_one", "_law_other"] [] := F.bindsN fun _ _ _ _ _ _ us hl => match us, hl with | [_, _], _ => rfl
  exact ⟨_, fd, _, _, okP_of ok, T.g_law_plus, F.kp, b, .nil⟩
end WK


namespace WK
open PySem PySem.Spec PyProof.Rows L2 DL PG
variable {P : Program} {w : World} {K : PySem.W.Frag} {mg : Str → Option Value} {base : Heap}
theorem ok_law_times (T : Top K mg) (h_law_fr : Has P w K mg base "_law_fr" 34 [] (spP K F_law_fr)) : Has P w K mg base "_law_times" 35 [] (spP K F_law_times) := by
  obtain ⟨fd, F⟩ := T.d_law_times
  have ok := def_okG (P := P) (w := w) (mg := mg) (base := base) (k := 34) (N := N_law_times) (ps := ["_law_one", "_law_other"]) (g := g_law_times) F sc_law_times (fun cdv A outer s H E hr rc => by
    have hu := hr.units
    exact ⟨_, (dss_one (ds_ret (kde_callP K (k := 34) h_law_fr (hr.mono (by decide)) (fun _ => RpAll.nil) (da_cons (de_op op_mulM s_mul (DE.toB (m := false) (kde_ix K (db_var 0) (DE.toB (m := false) de_int))) (DE.toB (m := false) (kde_ix K (db_var 1) (DE.toB (m := false) de_int)))) (da_cons (de_op op_mulM s_mul (DE.toB (m := false) (kde_ix K (db_var 0) (DE.toB (m := false) de_int))) (DE.toB (m := false) (kde_ix K (db_var 1) (DE.toB (m := false) de_int)))) da_nil)))))⟩)
  have b : Binds K fd ["_law_one", "_law_other"] [] := F.bindsN fun _ _ _ _ _ _ us hl => match us, hl with | [_, _], _ => rfl
  exact ⟨_, fd, _, _, okP_of ok, T.g_law_times, F.kp, b, .nil⟩
end WK


namespace WK
open PySem PySem.Spec PyProof.Rows L2 DL PG
variable {P : Program} {w : World} {K : PySem.W.Frag} {mg : Str → Option Value} {base : Heap}
theorem ok_law_below (T : Top K mg)  : Has P w K mg base "_law_below" 1 [] (spP K F_law_below) := by
  obtain ⟨fd, F⟩ := T.d_law_below
  have ok := def_okG (P := P) (w := w) (mg := mg) (base := base) (k := 0) (N := N_law_below) (ps := ["_law_one", "_law_other"]) (g := g_law_below) F sc_law_below (fun cdv A outer s H E hr rc => by
    have hu := hr.units
    exact ⟨_, (dss_one (ds_ret (de_cmp op_lt s_lt (DE.toB (m := false) (de_op op_mulM s_mul (DE.toB (m := false) (kde_ix K (db_var 0) (DE.toB (m := false) de_int))) (DE.toB (m := false) (kde_ix K (db_var 1) (DE.toB (m := false) de_int))))) (DE.toB (m := false) (de_op op_mulM s_mul (DE.toB (m := false) (kde_ix K (db_var 1) (DE.toB (m := false) de_int))) (DE.toB (m := false) (kde_ix K (db_var 0) (DE.toB (m := false) de_int))))))))⟩)
  have b : Binds K fd ["_law_one", "_law_other"] [] := F.bindsN fun _ _ _ _ _ _ us hl => match us, hl with | [_, _], _ => rfl
  exact ⟨_, fd, _, _, okP_of ok, T.g_law_below, F.kp, b, .nil⟩
end WK


namespace WK
open PySem PySem.Spec PyProof.Rows L2 DL PG
variable {P : Program} {w : World} {K : PySem.W.Frag} {mg : Str → Option Value} {base : Heap}
theorem ok_law_number (T : Top K mg) (h_law_taken : Has P w K mg base "_law_taken" 34 [] (spG K F_law_taken)) : Has P w K mg base "_law_number" 35 [] (spG K F_law_number) := by
  obtain ⟨fd, F⟩ := T.d_law_number
  have ok := def_okG (P := P) (w := w) (mg := mg) (base := base) (k := 34) (N := N_law_number) (ps := ["_law_row", "_law_size"]) (g := g_law_number) F sc_law_number (fun cdv A outer s H E hr rc => by
    have hu := hr.units
    exact ⟨_, (dss_one (ds_ret (de_op op_sub s_sub (DE.toB (m := false) (kde_callG K (k := 34) h_law_taken (hr.mono (by decide)) (dr_row (i := 0) (dr_cons (de_op op_add s_add (DE.toB (m := false) (de_op op_mulM s_mul (DE.toB (m := false) de_int) (db_var 1))) (DE.toB (m := false) de_int)) dr_nil)))) (db_var 1))))⟩)
  have b : Binds K fd ["_law_row", "_law_size"] [] := F.bindsN fun _ _ _ _ _ _ us hl => match us, hl with | [_, _], _ => rfl
  exact ⟨_, fd, _, _, ok, T.g_law_number, F.kp, b, .nil⟩
end WK


namespace WK
open PySem PySem.Spec PyProof.Rows L2 DL PG
variable {P : Program} {w : World} {K : PySem.W.Frag} {mg : Str → Option Value} {base : Heap}
theorem ok_law_solved (T : Top K mg) (h_law_times : Has P w K mg base "_law_times" 35 [] (spP K F_law_times)) (h_law_fr : Has P w K mg base "_law_fr" 34 [] (spP K F_law_fr)) (h_law_plus : Has P w K mg base "_law_plus" 35 [] (spP K F_law_plus)) : Has P w K mg base "_law_solved" 36 [] (spP K F_law_solved) := by
  obtain ⟨fd, F⟩ := T.d_law_solved
  have ok := def_okG (P := P) (w := w) (mg := mg) (base := base) (k := 35) (N := N_law_solved) (ps := ["_law_lot", "_law_rights"]) (g := g_law_solved) F sc_law_solved (fun cdv A outer s H E hr rc => by
    have hu := hr.units
    exact ⟨_, (dss_cons (ds_set (i := 2) sc_law_solved.nd (de_callB (kcall_len K) (kc_len K) (db_var 0) T.f_len PySem.boot_len))
    (dss_cons (ds_setO (i := 3) sc_law_solved.nd (df_lc (own := [("_law_at", 4)]) rfl sc_law_solved.nd (di_range1 (m := false) T.f_range (de_var 2)) (blkOk_by (own := [("_law_at", 4)]) (N := N_law_solved) (sc := defScope s_law_solved) (by decide +kernel)) (fun _ _ _ _ _ => (dg_name (i := 4) sc_law_solved.nd (by decide))) (fun _ _ _ _ _ => dts_nil) (fun _ _ _ _ _ => (DF.toE (df_lc (own := [("_law_one", 9)]) rfl sc_law_solved.nd (kdi_seq K (DE.toB (m := false) (DF.toE (df_op op_cat f_cat (DE.toB (m := false) (DF.toE (kdf_listOf K (DE.toB (m := false) (kde_ix K (db_var 0) (db_var 4))) T.f_list))) (DE.toB (m := false) (DF.toE (df_lst (da_cons (kde_ix K (db_var 1) (db_var 4)) da_nil)))))))) (blkOk_by (own := [("_law_one", 9)]) rfl) (fun _ _ _ _ _ => (dg_name (i := 9) sc_law_solved.nd (by decide))) (fun _ _ _ _ _ => dts_nil) (fun _ _ _ _ _ => (de_tup (da_cons (de_var 9) (da_cons de_int da_nil)))))))))
    (dss_cons (ds_for (vs := [4]) PassesOwn.never rfl (di_range1 (m := true) T.f_range (de_var 2)) (dg_name (i := 4) sc_law_solved.nd (by decide)) (dss_cons (ds_setLc (own := [("_law_spot", 7)]) (i := 5) rfl sc_law_solved.nd rfl rfl (sw_true rfl rfl rfl (by decide +kernel)) (di_range2 (m := false) T.f_range (de_var 4) (de_var 2)) (blkOk_by (own := [("_law_spot", 7)]) (N := N_law_solved) (sc := defScope s_law_solved) (by decide +kernel)) (fun _ _ _ _ _ => (dg_name (i := 7) sc_law_solved.nd (by decide))) (fun _ _ _ _ _ => (dts_one (dt_cmp (kop_neD K hu) s_ne (DE.toB (m := false) (kde_ix K (DE.toB (m := false) (kde_ix K (DE.toB (m := false) (kde_ix K (db_var 3) (db_var 7))) (db_var 4))) (DE.toB (m := false) de_int))) (DE.toB (m := false) de_int)))) (fun _ _ _ _ _ => (de_var 7)))
    (dss_cons (ds_if (dt_cmp (kop_eqD K hu) s_eq (db_var 5) (DE.toB (m := false) (DF.toE (df_lst da_nil)))) (dss_one (ds_ret de_non)) dss_nil)
    (dss_cons (ds_set (i := 6) sc_law_solved.nd (kde_ix K (db_var 3) (DE.toB (m := false) (kde_ix K (db_var 5) (DE.toB (m := false) de_int)))))
    (dss_cons (ds_asg (kde_ix K (db_var 3) (db_var 4)) (dx_sub (i := 3) (kde_ix K (db_var 5) (DE.toB (m := false) de_int))))
    (dss_cons (ds_set (i := 6) sc_law_solved.nd (DF.toE (df_lc (own := [("_law_one", 9)]) rfl sc_law_solved.nd (kdi_seq K (db_var 6)) (blkOk_by (own := [("_law_one", 9)]) (N := N_law_solved) (sc := defScope s_law_solved) (by decide +kernel)) (fun _ _ _ _ _ => (dg_name (i := 9) sc_law_solved.nd (by decide))) (fun _ _ _ _ _ => dts_nil) (fun _ _ _ _ _ => (kde_callP K (k := 35) h_law_times (hr.mono (by decide)) (fun _ => RpAll.nil) (da_cons (de_var 9) (da_cons (kde_callP K (k := 34) h_law_fr (hr.mono (by decide)) (fun _ => RpAll.nil) (da_cons (kde_ix K (DE.toB (m := false) (kde_ix K (db_var 6) (db_var 4))) (DE.toB (m := false) de_int)) (da_cons (kde_ix K (DE.toB (m := false) (kde_ix K (db_var 6) (db_var 4))) (DE.toB (m := false) de_int)) da_nil))) da_nil)))))))
    (dss_cons (ds_asg (de_var 6) (dx_sub (i := 3) (de_var 4)))
    (dss_one (ds_for (vs := [7]) PassesOwn.never rfl (di_range1 (m := true) T.f_range (de_var 2)) (dg_name (i := 7) sc_law_solved.nd (by decide)) (dss_one (ds_if (dt_cmp (kop_neD K hu) s_ne (db_var 7) (db_var 4)) (dss_cons (ds_set (i := 8) sc_law_solved.nd (de_tup (da_cons (de_op op_sub s_sub (DE.toB (m := false) de_int) (DE.toB (m := false) (kde_ix K (DE.toB (m := false) (kde_ix K (DE.toB (m := false) (kde_ix K (db_var 3) (db_var 7))) (db_var 4))) (DE.toB (m := false) de_int)))) (da_cons (kde_ix K (DE.toB (m := false) (kde_ix K (DE.toB (m := false) (kde_ix K (db_var 3) (db_var 7))) (db_var 4))) (DE.toB (m := false) de_int)) da_nil))))
    (dss_one (ds_asg (DF.toE (df_lc (own := [("_law_k", 10)]) rfl sc_law_solved.nd (di_range1 (m := false) T.f_range (de_op op_add s_add (db_var 2) (DE.toB (m := false) de_int))) (blkOk_by (own := [("_law_k", 10)]) (N := N_law_solved) (sc := defScope s_law_solved) (by decide +kernel)) (fun _ _ _ _ _ => (dg_name (i := 10) sc_law_solved.nd (by decide))) (fun _ _ _ _ _ => dts_nil) (fun _ _ _ _ _ => (kde_callP K (k := 35) h_law_plus (hr.mono (by decide)) (fun _ => RpAll.nil) (da_cons (kde_ix K (DE.toB (m := false) (kde_ix K (db_var 3) (db_var 7))) (db_var 10)) (da_cons (kde_callP K (k := 35) h_law_times (hr.mono (by decide)) (fun _ => RpAll.nil) (da_cons (de_var 8) (da_cons (kde_ix K (db_var 6) (db_var 10)) da_nil))) da_nil)))))) (dx_sub (i := 3) (de_var 7))))) dss_nil)))))))))))
    (dss_one (ds_ret (DF.toE (df_lc (own := [("_law_line", 11)]) rfl sc_law_solved.nd (kdi_seq K (db_var 3)) (blkOk_by (own := [("_law_line", 11)]) (N := N_law_solved) (sc := defScope s_law_solved) (by decide +kernel)) (fun _ _ _ _ _ => (dg_name (i := 11) sc_law_solved.nd (by decide))) (fun _ _ _ _ _ => dts_nil) (fun _ _ _ _ _ => (kde_ix K (db_var 11) (db_var 2))))))))))⟩)
  have b : Binds K fd ["_law_lot", "_law_rights"] [] := F.bindsN fun _ _ _ _ _ _ us hl => match us, hl with | [_, _], _ => rfl
  exact ⟨_, fd, _, _, okP_of ok, T.g_law_solved, F.kp, b, .nil⟩
end WK


namespace WK
open PySem PySem.Spec PyProof.Rows L2 DL PG
variable {P : Program} {w : World} {K : PySem.W.Frag} {mg : Str → Option Value} {base : Heap}
theorem ok_law_less (T : Top K mg) (h_law_plus : Has P w K mg base "_law_plus" 35 [] (spP K F_law_plus)) : Has P w K mg base "_law_less" 36 [] (spP K F_law_less) := by
  obtain ⟨fd, F⟩ := T.d_law_less
  have ok := def_okG (P := P) (w := w) (mg := mg) (base := base) (k := 35) (N := N_law_less) (ps := ["_law_one", "_law_other"]) (g := g_law_less) F sc_law_less (fun cdv A outer s H E hr rc => by
    have hu := hr.units
    exact ⟨_, (dss_one (ds_ret (kde_callP K (k := 35) h_law_plus (hr.mono (by decide)) (fun _ => RpAll.nil) (da_cons (de_var 0) (da_cons (de_tup (da_cons (de_op op_sub s_sub (DE.toB (m := false) de_int) (DE.toB (m := false) (kde_ix K (db_var 1) (DE.toB (m := false) de_int)))) (da_cons (kde_ix K (db_var 1) (DE.toB (m := false) de_int)) da_nil))) da_nil)))))⟩)
  have b : Binds K fd ["_law_one", "_law_other"] [] := F.bindsN fun _ _ _ _ _ _ us hl => match us, hl with | [_, _], _ => rfl
  exact ⟨_, fd, _, _, okP_of ok, T.g_law_less, F.kp, b, .nil⟩
end WK


namespace WK
open PySem PySem.Spec PyProof.Rows L2 DL PG
variable {P : Program} {w : World} {K : PySem.W.Frag} {mg : Str → Option Value} {base : Heap}
theorem ok_law_inner (T : Top K mg) (h_law_plus : Has P w K mg base "_law_plus" 35 [] (spP K F_law_plus)) (h_law_times : Has P w K mg base "_law_times" 35 [] (spP K F_law_times)) : Has P w K mg base "_law_inner" 36 [] (spP K F_law_inner) := by
  obtain ⟨fd, F⟩ := T.d_law_inner
  have ok := def_okG (P := P) (w := w) (mg := mg) (base := base) (k := 35) (N := N_law_inner) (ps := ["_law_one", "_law_other"]) (g := g_law_inner) F sc_law_inner (fun cdv A outer s H E hr rc => by
    have hu := hr.units
    exact ⟨_, (dss_cons (ds_set (i := 2) sc_law_inner.nd (de_tup (da_cons de_int (da_cons de_int da_nil))))
    (dss_cons (ds_for (vs := [3]) PassesOwn.never rfl (di_range1 (m := true) T.f_range (de_callB (kcall_len K) (kc_len K) (db_var 0) T.f_len PySem.boot_len)) (dg_name (i := 3) sc_law_inner.nd (by decide)) (dss_one (ds_set (i := 2) sc_law_inner.nd (kde_callP K (k := 35) h_law_plus (hr.mono (by decide)) (fun _ => RpAll.nil) (da_cons (de_var 2) (da_cons (kde_callP K (k := 35) h_law_times (hr.mono (by decide)) (fun _ => RpAll.nil) (da_cons (de_tup (da_cons (kde_ix K (db_var 0) (db_var 3)) (da_cons de_int da_nil))) (da_cons (kde_ix K (db_var 1) (db_var 3)) da_nil))) da_nil))))))
    (dss_one (ds_ret (de_var 2)))))⟩)
  have b : Binds K fd ["_law_one", "_law_other"] [] := F.bindsN fun _ _ _ _ _ _ us hl => match us, hl with | [_, _], _ => rfl
  exact ⟨_, fd, _, _, okP_of ok, T.g_law_inner, F.kp, b, .nil⟩
end WK


namespace WK
open PySem PySem.Spec PyProof.Rows L2 DL PG
variable {P : Program} {w : World} {K : PySem.W.Frag} {mg : Str → Option Value} {base : Heap}
theorem ok_law_squares (T : Top K mg) (h_law_number : Has P w K mg base "_law_number" 35 [] (spG K F_law_number)) (h_law_taken : Has P w K mg base "_law_taken" 34 [] (spG K F_law_taken)) : Has P w K mg base "_law_squares" 36 [] (spG K F_law_squares) := by
  obtain ⟨fd, F⟩ := T.d_law_squares
  have ok := def_okG (P := P) (w := w) (mg := mg) (base := base) (k := 35) (N := N_law_squares) (ps := ["_law_row", "_law_wide", "_law_size"]) (g := g_law_squares) F sc_law_squares (fun cdv A outer s H E hr rc => by
    have hu := hr.units
    exact ⟨_, (dss_cons (ds_set (i := 3) sc_law_squares.nd (DF.toE (df_lc (own := [("_law_turn", 7)]) rfl sc_law_squares.nd (di_range1 (m := false) T.f_range (de_var 1)) (blkOk_by (own := [("_law_turn", 7)]) (N := N_law_squares) (sc := defScope s_law_squares) (by decide +kernel)) (fun _ _ _ _ _ => (dg_name (i := 7) sc_law_squares.nd (by decide))) (fun _ _ _ _ _ => dts_nil) (fun _ _ _ _ _ => (DF.toE (df_lc (own := [("_law_at", 5)]) rfl sc_law_squares.nd (di_range1 (m := false) T.f_range (de_var 1)) (blkOk_by (own := [("_law_at", 5)]) rfl) (fun _ _ _ _ _ => (dg_name (i := 5) sc_law_squares.nd (by decide))) (fun _ _ _ _ _ => dts_nil) (fun _ _ _ _ _ => (kde_callG K (k := 35) h_law_number (hr.mono (by decide)) (dr_row (i := 0) (dr_cons (de_var 2) dr_nil))))))))))
    (dss_cons (ds_setO (i := 4) sc_law_squares.nd (df_lst da_nil))
    (dss_cons (ds_for (vs := [5]) PassesOwn.never rfl (di_range1 (m := true) T.f_range (de_var 1)) (dg_name (i := 5) sc_law_squares.nd (by decide)) (dss_cons (ds_setLcO (own := [("_law_to", 8)]) (i := 6) rfl sc_law_squares.nd rfl rfl (sw_true rfl rfl rfl (by decide +kernel)) (di_range1 (m := false) T.f_range (de_var 1)) (blkOk_by (own := [("_law_to", 8)]) (N := N_law_squares) (sc := defScope s_law_squares) (by decide +kernel)) (fun _ _ _ _ _ => (dg_name (i := 8) sc_law_squares.nd (by decide))) (fun _ _ _ _ _ => dts_nil) (fun _ _ _ _ _ => (de_callB (kcr_sum K rfl) c_sum (DE.toB (m := false) (DF.toE (df_lc (own := [("_law_one", 9)]) rfl sc_law_squares.nd (kdi_seq K (db_var 3)) (blkOk_by (own := [("_law_one", 9)]) rfl) (fun _ _ _ _ _ => (dg_name (i := 9) sc_law_squares.nd (by decide))) (fun _ _ _ _ _ => dts_nil) (fun _ _ _ _ _ => (de_op op_mulM s_mul (DE.toB (m := false) (kde_ix K (db_var 9) (db_var 5))) (DE.toB (m := false) (kde_ix K (db_var 9) (db_var 8)))))))) T.f_sum PyProof.Rows.boot_sum)))
    (dss_cons (ds_asg (de_op op_add s_add (DE.toB (m := false) (de_op op_add s_add (DE.toB (m := false) (kde_ix K (db_var 6) (db_var 5))) (DE.toB (m := false) de_int))) (DE.toB (m := false) (kde_callG K (k := 34) h_law_taken (hr.mono (by decide)) (dr_row (i := 0) (dr_cons de_int dr_nil))))) (dx_sub (i := 6) (de_var 5)))
    (dss_one (kds_append (i := 4) (de_callTy (kcall_tuple K) c_tuple (db_var 6) T.f_tuple PyProof.Rows.boot_tuple))))))
    (dss_one (ds_ret (de_callTy (kcall_tuple K) c_tuple (db_var 4) T.f_tuple PyProof.Rows.boot_tuple))))))⟩)
  have b : Binds K fd ["_law_row", "_law_wide", "_law_size"] [] := F.bindsN fun _ _ _ _ _ _ us hl => match us, hl with | [_, _, _], _ => rfl
  exact ⟨_, fd, _, _, ok, T.g_law_squares, F.kp, b, .nil⟩
end WK


namespace WK
open PySem PySem.Spec PyProof.Rows L2 DL PG
variable {P : Program} {w : World} {K : PySem.W.Frag} {mg : Str → Option Value} {base : Heap}
theorem ok_law_task (T : Top K mg) (h_law_taken : Has P w K mg base "_law_taken" 34 [] (spG K F_law_taken)) (h_law_squares : Has P w K mg base "_law_squares" 36 [] (spG K F_law_squares)) (h_law_number : Has P w K mg base "_law_number" 35 [] (spG K F_law_number)) : Has P w K mg base "_law_task" 37 [] (spG K F_law_task) := by
  obtain ⟨fd, F⟩ := T.d_law_task
  have ok := def_okG (P := P) (w := w) (mg := mg) (base := base) (k := 36) (N := N_law_task) (ps := ["_law_row", "_law_columns", "_law_rows", "_law_size"]) (g := g_law_task) F sc_law_task (fun cdv A outer s H E hr rc => by
    have hu := hr.units
    exact ⟨_, (dss_cons (ds_set (i := 4) sc_law_task.nd (de_op op_add s_add (DE.toB (m := false) de_int) (DE.toB (m := false) (kde_callG K (k := 34) h_law_taken (hr.mono (by decide)) (dr_row (i := 0) (dr_cons (de_var 1) dr_nil))))))
    (dss_cons (ds_set (i := 5) sc_law_task.nd (kde_callG K (k := 36) h_law_squares (hr.mono (by decide)) (dr_row (i := 0) (dr_cons (de_var 4) (dr_cons (de_op op_add s_add (DE.toB (m := false) de_int) (DE.toB (m := false) (kde_callG K (k := 34) h_law_taken (hr.mono (by decide)) (dr_row (i := 0) (dr_cons de_int dr_nil))))) dr_nil)))))
    (dss_cons (ds_set (i := 6) sc_law_task.nd (de_callTy (kcall_tuple K) c_tuple (DE.toB (m := false) (DF.toE (df_lc (own := [("_law_at", 11)]) rfl sc_law_task.nd (di_range1 (m := false) T.f_range (de_var 4)) (blkOk_by (own := [("_law_at", 11)]) (N := N_law_task) (sc := defScope s_law_task) (by decide +kernel)) (fun _ _ _ _ _ => (dg_name (i := 11) sc_law_task.nd (by decide))) (fun _ _ _ _ _ => dts_nil) (fun _ _ _ _ _ => (kde_callG K (k := 35) h_law_number (hr.mono (by decide)) (dr_row (i := 0) (dr_cons de_int dr_nil))))))) T.f_tuple PyProof.Rows.boot_tuple))
    (dss_cons (ds_set (i := 7) sc_law_task.nd (de_callTy (kcall_tuple K) c_tuple (DE.toB (m := false) (DF.toE (df_lc (own := [("_law_at", 11)]) rfl sc_law_task.nd (di_range1 (m := false) T.f_range (de_var 4)) (blkOk_by (own := [("_law_at", 11)]) (N := N_law_task) (sc := defScope s_law_task) (by decide +kernel)) (fun _ _ _ _ _ => (dg_name (i := 11) sc_law_task.nd (by decide))) (fun _ _ _ _ _ => dts_nil) (fun _ _ _ _ _ => (kde_callG K (k := 35) h_law_number (hr.mono (by decide)) (dr_row (i := 0) (dr_cons de_int dr_nil))))))) T.f_tuple PyProof.Rows.boot_tuple))
    (dss_cons (ds_setO (i := 8) sc_law_task.nd (df_lst da_nil))
    (dss_cons (ds_for (vs := [9]) PassesOwn.never rfl (di_range1 (m := true) T.f_range (kde_callG K (k := 34) h_law_taken (hr.mono (by decide)) (dr_row (i := 0) (dr_cons (de_op op_add s_add (db_var 2) (DE.toB (m := false) de_int)) dr_nil)))) (dg_name (i := 9) sc_law_task.nd (by decide)) (dss_cons (ds_set (i := 10) sc_law_task.nd (de_callTy (kcall_tuple K) c_tuple (DE.toB (m := false) (DF.toE (df_lc (own := [("_law_at", 11)]) rfl sc_law_task.nd (di_range1 (m := false) T.f_range (de_var 4)) (blkOk_by (own := [("_law_at", 11)]) (N := N_law_task) (sc := defScope s_law_task) (by decide +kernel)) (fun _ _ _ _ _ => (dg_name (i := 11) sc_law_task.nd (by decide))) (fun _ _ _ _ _ => dts_nil) (fun _ _ _ _ _ => (kde_callG K (k := 35) h_law_number (hr.mono (by decide)) (dr_row (i := 0) (dr_cons (de_var 3) dr_nil))))))) T.f_tuple PyProof.Rows.boot_tuple))
    (dss_one (kds_append (i := 8) (de_tup (da_cons (de_var 10) (da_cons (kde_callG K (k := 35) h_law_number (hr.mono (by decide)) (dr_row (i := 0) (dr_cons de_int dr_nil))) (da_cons (de_if (dt_cmp (kop_eqD K hu) s_eq (DE.toB (m := false) (kde_callG K (k := 34) h_law_taken (hr.mono (by decide)) (dr_row (i := 0) (dr_cons de_int dr_nil)))) (DE.toB (m := false) de_int)) (kde_callG K (k := 35) h_law_number (hr.mono (by decide)) (dr_row (i := 0) (dr_cons de_int dr_nil))) de_int) da_nil))))))))
    (dss_one (ds_ret (de_tup (da_cons (de_var 5) (da_cons (de_var 6) (da_cons (de_var 7) (da_cons (de_callTy (kcall_tuple K) c_tuple (db_var 8) T.f_tuple PyProof.Rows.boot_tuple) da_nil)))))))))))))⟩)
  have b : Binds K fd ["_law_row", "_law_columns", "_law_rows", "_law_size"] [] := F.bindsN fun _ _ _ _ _ _ us hl => match us, hl with | [_, _, _, _], _ => rfl
  exact ⟨_, fd, _, _, ok, T.g_law_task, F.kp, b, .nil⟩
end WK


namespace WK
open PySem PySem.Spec PyProof.Rows L2 DL PG
variable {P : Program} {w : World} {K : PySem.W.Frag} {mg : Str → Option Value} {base : Heap}
theorem ok_law_share (T : Top K mg) (h_law_fr : Has P w K mg base "_law_fr" 34 [] (spP K F_law_fr)) (h_law_taken : Has P w K mg base "_law_taken" 34 [] (spG K F_law_taken)) (h_law_number : Has P w K mg base "_law_number" 35 [] (spG K F_law_number)) : Has P w K mg base "_law_share" 36 [] (spG K F_law_share) := by
  obtain ⟨fd, F⟩ := T.d_law_share
  have ok := def_okG (P := P) (w := w) (mg := mg) (base := base) (k := 35) (N := N_law_share) (ps := ["_law_row", "_law_size", "_law_low"]) (g := g_law_share) F sc_law_share (fun cdv A outer s H E hr rc => by
    have hu := hr.units
    exact ⟨_, (dss_one (ds_ret (kde_callP K (k := 34) h_law_fr (hr.mono (by decide)) (fun _ => RpAll.nil) (da_cons (kde_callG K (k := 35) h_law_number (hr.mono (by decide)) (dr_row (i := 0) (dr_cons (de_var 1) dr_nil))) (da_cons (de_op op_add s_add (DE.toB (m := false) de_int) (DE.toB (m := false) (kde_callG K (k := 34) h_law_taken (hr.mono (by decide)) (dr_row (i := 0) (dr_cons (de_var 2) dr_nil))))) da_nil)))))⟩)
  have b : Binds K fd ["_law_row", "_law_size", "_law_low"] [] := F.bindsN fun _ _ _ _ _ _ us hl => match us, hl with | [_, _, _], _ => rfl
  exact ⟨_, fd, _, _, ok, T.g_law_share, F.kp, b, .nil⟩
end WK


namespace WK
open PySem PySem.Spec PyProof.Rows L2 DL PG
variable {P : Program} {w : World} {K : PySem.W.Frag} {mg : Str → Option Value} {base : Heap}
theorem ok_law_slope (T : Top K mg) (h_law_plus : Has P w K mg base "_law_plus" 35 [] (spP K F_law_plus)) (h_law_times : Has P w K mg base "_law_times" 35 [] (spP K F_law_times)) (h_law_inner : Has P w K mg base "_law_inner" 36 [] (spP K F_law_inner)) : Has P w K mg base "_law_slope" 37 [] (spP K F_law_slope) := by
  obtain ⟨fd, F⟩ := T.d_law_slope
  have ok := def_okG (P := P) (w := w) (mg := mg) (base := base) (k := 36) (N := N_law_slope) (ps := ["_law_task_here", "_law_share_here", "_law_plan"]) (g := g_law_slope) F sc_law_slope (fun cdv A outer s H E hr rc => by
    have hu := hr.units
    exact ⟨_, (dss_cons (ds_setO (i := 3) sc_law_slope.nd (df_lst da_nil))
    (dss_cons (ds_for (vs := [4]) PassesOwn.never rfl (di_range1 (m := true) T.f_range (de_callB (kcall_len K) (kc_len K) (db_var 2) T.f_len PySem.boot_len)) (dg_name (i := 4) sc_law_slope.nd (by decide)) (dss_cons (ds_set (i := 5) sc_law_slope.nd (kde_callP K (k := 35) h_law_plus (hr.mono (by decide)) (fun _ => RpAll.nil) (da_cons (de_tup (da_cons (kde_ix K (DE.toB (m := false) (kde_ix K (db_var 0) (DE.toB (m := false) de_int))) (db_var 4)) (da_cons de_int da_nil))) (da_cons (kde_callP K (k := 35) h_law_times (hr.mono (by decide)) (fun _ => RpAll.nil) (da_cons (de_tup (da_cons (kde_ix K (DE.toB (m := false) (kde_ix K (db_var 0) (DE.toB (m := false) de_int))) (db_var 4)) (da_cons de_int da_nil))) (da_cons (de_var 1) da_nil))) da_nil))))
    (dss_one (kds_append (i := 3) (kde_callP K (k := 35) h_law_plus (hr.mono (by decide)) (fun _ => RpAll.nil) (da_cons (kde_callP K (k := 36) h_law_inner (hr.mono (by decide)) (fun _ => RpAll.nil) (da_cons (kde_ix K (DE.toB (m := false) (kde_ix K (db_var 0) (DE.toB (m := false) de_int))) (db_var 4)) (da_cons (de_var 2) da_nil))) (da_cons (de_var 5) da_nil)))))))
    (dss_one (ds_fz 3 (ds_ret (de_var 3))))))⟩)
  have b : Binds K fd ["_law_task_here", "_law_share_here", "_law_plan"] [] := F.bindsN fun _ _ _ _ _ _ us hl => match us, hl with | [_, _, _], _ => rfl
  exact ⟨_, fd, _, _, okP_of ok, T.g_law_slope, F.kp, b, .nil⟩
end WK


namespace WK
open PySem PySem.Spec PyProof.Rows L2 DL PG
variable {P : Program} {w : World} {K : PySem.W.Frag} {mg : Str → Option Value} {base : Heap}
theorem ok_law_gaps (T : Top K mg) (h_law_plus : Has P w K mg base "_law_plus" 35 [] (spP K F_law_plus)) (h_law_times : Has P w K mg base "_law_times" 35 [] (spP K F_law_times)) (h_law_less : Has P w K mg base "_law_less" 36 [] (spP K F_law_less)) (h_law_inner : Has P w K mg base "_law_inner" 36 [] (spP K F_law_inner)) : Has P w K mg base "_law_gaps" 37 [] (spP K F_law_gaps) := by
  obtain ⟨fd, F⟩ := T.d_law_gaps
  have ok := def_okG (P := P) (w := w) (mg := mg) (base := base) (k := 36) (N := N_law_gaps) (ps := ["_law_task_here", "_law_share_here", "_law_plan"]) (g := g_law_gaps) F sc_law_gaps (fun cdv A outer s H E hr rc => by
    have hu := hr.units
    exact ⟨_, (dss_cons (ds_setO (i := 3) sc_law_gaps.nd (df_lst da_nil))
    (dss_cons (ds_for (vs := [4, 5, 6]) PassesOwn.never rfl (kdi_seq K (DE.toB (m := true) (kde_ix K (db_var 0) (DE.toB (m := false) de_int)))) (kdg_tup K rfl (dgs_cons (dg_name (i := 4) sc_law_gaps.nd (by decide)) (dgs_cons (dg_name (i := 5) sc_law_gaps.nd (by decide)) (dgs_cons (dg_name (i := 6) sc_law_gaps.nd (by decide)) dgs_nil)))) (dss_cons (ds_set (i := 7) sc_law_gaps.nd (kde_callP K (k := 35) h_law_plus (hr.mono (by decide)) (fun _ => RpAll.nil) (da_cons (de_tup (da_cons (de_var 5) (da_cons de_int da_nil))) (da_cons (kde_callP K (k := 35) h_law_times (hr.mono (by decide)) (fun _ => RpAll.nil) (da_cons (de_tup (da_cons (de_var 6) (da_cons de_int da_nil))) (da_cons (de_var 1) da_nil))) da_nil))))
    (dss_one (kds_append (i := 3) (kde_callP K (k := 36) h_law_less (hr.mono (by decide)) (fun _ => RpAll.nil) (da_cons (kde_callP K (k := 36) h_law_inner (hr.mono (by decide)) (fun _ => RpAll.nil) (da_cons (de_var 4) (da_cons (de_var 2) da_nil))) (da_cons (de_var 7) da_nil)))))))
    (dss_one (ds_fz 3 (ds_ret (de_var 3))))))⟩)
  have b : Binds K fd ["_law_task_here", "_law_share_here", "_law_plan"] [] := F.bindsN fun _ _ _ _ _ _ us hl => match us, hl with | [_, _, _], _ => rfl
  exact ⟨_, fd, _, _, okP_of ok, T.g_law_gaps, F.kp, b, .nil⟩
end WK


namespace WK
open PySem PySem.Spec PyProof.Rows L2 DL PG
variable {P : Program} {w : World} {K : PySem.W.Frag} {mg : Str → Option Value} {base : Heap}
theorem ok_law_worth (T : Top K mg) (h_law_plus : Has P w K mg base "_law_plus" 35 [] (spP K F_law_plus)) (h_law_times : Has P w K mg base "_law_times" 35 [] (spP K F_law_times)) (h_law_inner : Has P w K mg base "_law_inner" 36 [] (spP K F_law_inner)) : Has P w K mg base "_law_worth" 37 [] (spP K F_law_worth) := by
  obtain ⟨fd, F⟩ := T.d_law_worth
  have ok := def_okG (P := P) (w := w) (mg := mg) (base := base) (k := 36) (N := N_law_worth) (ps := ["_law_task_here", "_law_share_here", "_law_plan"]) (g := g_law_worth) F sc_law_worth (fun cdv A outer s H E hr rc => by
    have hu := hr.units
    exact ⟨_, (dss_cons (ds_set (i := 3) sc_law_worth.nd (de_tup (da_cons de_int (da_cons de_int da_nil))))
    (dss_cons (ds_for (vs := [4]) PassesOwn.never rfl (di_range1 (m := true) T.f_range (de_callB (kcall_len K) (kc_len K) (db_var 2) T.f_len PySem.boot_len)) (dg_name (i := 4) sc_law_worth.nd (by decide)) (dss_cons (ds_set (i := 5) sc_law_worth.nd (kde_callP K (k := 35) h_law_plus (hr.mono (by decide)) (fun _ => RpAll.nil) (da_cons (de_tup (da_cons (kde_ix K (DE.toB (m := false) (kde_ix K (db_var 0) (DE.toB (m := false) de_int))) (db_var 4)) (da_cons de_int da_nil))) (da_cons (kde_callP K (k := 35) h_law_times (hr.mono (by decide)) (fun _ => RpAll.nil) (da_cons (de_tup (da_cons (kde_ix K (DE.toB (m := false) (kde_ix K (db_var 0) (DE.toB (m := false) de_int))) (db_var 4)) (da_cons de_int da_nil))) (da_cons (de_var 1) da_nil))) da_nil))))
    (dss_cons (ds_set (i := 6) sc_law_worth.nd (kde_callP K (k := 35) h_law_times (hr.mono (by decide)) (fun _ => RpAll.nil) (da_cons (de_tup (da_cons de_int (da_cons de_int da_nil))) (da_cons (kde_callP K (k := 36) h_law_inner (hr.mono (by decide)) (fun _ => RpAll.nil) (da_cons (kde_ix K (DE.toB (m := false) (kde_ix K (db_var 0) (DE.toB (m := false) de_int))) (db_var 4)) (da_cons (de_var 2) da_nil))) da_nil))))
    (dss_one (ds_set (i := 3) sc_law_worth.nd (kde_callP K (k := 35) h_law_plus (hr.mono (by decide)) (fun _ => RpAll.nil) (da_cons (de_var 3) (da_cons (kde_callP K (k := 35) h_law_times (hr.mono (by decide)) (fun _ => RpAll.nil) (da_cons (kde_ix K (db_var 2) (db_var 4)) (da_cons (kde_callP K (k := 35) h_law_plus (hr.mono (by decide)) (fun _ => RpAll.nil) (da_cons (de_var 6) (da_cons (de_var 5) da_nil))) da_nil))) da_nil))))))))
    (dss_one (ds_ret (de_var 3)))))⟩)
  have b : Binds K fd ["_law_task_here", "_law_share_here", "_law_plan"] [] := F.bindsN fun _ _ _ _ _ _ us hl => match us, hl with | [_, _, _], _ => rfl
  exact ⟨_, fd, _, _, okP_of ok, T.g_law_worth, F.kp, b, .nil⟩
end WK


namespace WK
open PySem PySem.Spec PyProof.Rows L2 DL PG
variable {P : Program} {w : World} {K : PySem.W.Frag} {mg : Str → Option Value} {base : Heap}
theorem ok_law_shows (T : Top K mg) (h_law_gaps : Has P w K mg base "_law_gaps" 37 [] (spP K F_law_gaps)) (h_law_slope : Has P w K mg base "_law_slope" 37 [] (spP K F_law_slope)) (h_law_inner : Has P w K mg base "_law_inner" 36 [] (spP K F_law_inner)) : Has P w K mg base "_law_shows" 38 [] (spP K F_law_shows) := by
  obtain ⟨fd, F⟩ := T.d_law_shows
  have ok := def_okG (P := P) (w := w) (mg := mg) (base := base) (k := 37) (N := N_law_shows) (ps := ["_law_task_here", "_law_share_here", "_law_plan", "_law_weights"]) (g := g_law_shows) F sc_law_shows (fun cdv A outer s H E hr rc => by
    have hu := hr.units
    exact ⟨_, (dss_cons (ds_set (i := 4) sc_law_shows.nd (kde_callP K (k := 37) h_law_gaps (hr.mono (by decide)) (fun _ => RpAll.nil) (da_cons (de_var 0) (da_cons (de_var 1) (da_cons (de_var 2) da_nil)))))
    (dss_cons (ds_for (vs := [5]) PassesOwn.never rfl (di_range1 (m := true) T.f_range (de_callB (kcall_len K) (kc_len K) (db_var 4) T.f_len PySem.boot_len)) (dg_name (i := 5) sc_law_shows.nd (by decide)) (dss_one (ds_if (DW.dt (dw_or (dt_cmp op_lt s_lt (DE.toB (m := false) (kde_ix K (DE.toB (m := false) (kde_ix K (db_var 4) (db_var 5))) (DE.toB (m := false) de_int))) (DE.toB (m := false) de_int)) (dw_or (dt_cmp op_lt s_lt (DE.toB (m := false) (kde_ix K (DE.toB (m := false) (kde_ix K (db_var 3) (db_var 5))) (DE.toB (m := false) de_int))) (DE.toB (m := false) de_int)) (dw_or1 (DW.dt (dw_and (dt_cmp op_gt s_gt (DE.toB (m := false) (kde_ix K (DE.toB (m := false) (kde_ix K (db_var 4) (db_var 5))) (DE.toB (m := false) de_int))) (DE.toB (m := false) de_int)) (dw_and1 (dt_cmp (kop_neD K hu) s_ne (DE.toB (m := false) (kde_ix K (DE.toB (m := false) (kde_ix K (db_var 3) (db_var 5))) (DE.toB (m := false) de_int))) (DE.toB (m := false) de_int))))))))) (dss_one (ds_ret de_bl)) dss_nil)))
    (dss_cons (ds_set (i := 6) sc_law_shows.nd (kde_callP K (k := 37) h_law_slope (hr.mono (by decide)) (fun _ => RpAll.nil) (da_cons (de_var 0) (da_cons (de_var 1) (da_cons (de_var 2) da_nil)))))
    (dss_cons (ds_for (vs := [5]) PassesOwn.never rfl (di_range1 (m := true) T.f_range (de_callB (kcall_len K) (kc_len K) (db_var 2) T.f_len PySem.boot_len)) (dg_name (i := 5) sc_law_shows.nd (by decide)) (dss_one (ds_if (dt_cmp (kop_neD K hu) s_ne (DE.toB (m := false) (kde_ix K (db_var 6) (db_var 5))) (DE.toB (m := false) (kde_callP K (k := 36) h_law_inner (hr.mono (by decide)) (fun _ => RpAll.nil) (da_cons (DF.toE (df_lc (own := [("_law_line", 7)]) rfl sc_law_shows.nd (kdi_seq K (DE.toB (m := false) (kde_ix K (db_var 0) (DE.toB (m := false) de_int)))) (blkOk_by (own := [("_law_line", 7)]) (N := N_law_shows) (sc := defScope s_law_shows) (by decide +kernel)) (fun _ _ _ _ _ => (dg_name (i := 7) sc_law_shows.nd (by decide))) (fun _ _ _ _ _ => dts_nil) (fun _ _ _ _ _ => (kde_ix K (DE.toB (m := false) (kde_ix K (db_var 7) (DE.toB (m := false) de_int))) (db_var 5))))) (da_cons (de_var 3) da_nil))))) (dss_one (ds_ret de_bl)) dss_nil)))
    (dss_one (ds_ret de_bl))))))⟩)
  have b : Binds K fd ["_law_task_here", "_law_share_here", "_law_plan", "_law_weights"] [] := F.bindsN fun _ _ _ _ _ _ us hl => match us, hl with | [_, _, _, _], _ => rfl
  exact ⟨_, fd, _, _, okP_of ok, T.g_law_shows, F.kp, b, .nil⟩
end WK


namespace WK
open PySem PySem.Spec PyProof.Rows L2 DL PG
variable {P : Program} {w : World} {K : PySem.W.Frag} {mg : Str → Option Value} {base : Heap}
theorem ok_law_bars (T : Top K mg) (h_law_inner : Has P w K mg base "_law_inner" 36 [] (spP K F_law_inner)) (h_law_plus : Has P w K mg base "_law_plus" 35 [] (spP K F_law_plus)) (h_law_times : Has P w K mg base "_law_times" 35 [] (spP K F_law_times)) : Has P w K mg base "_law_bars" 37 [] (spP K F_law_bars) := by
  obtain ⟨fd, F⟩ := T.d_law_bars
  have ok := def_okG (P := P) (w := w) (mg := mg) (base := base) (k := 36) (N := N_law_bars) (ps := ["_law_task_here", "_law_share_here", "_law_weights"]) (g := g_law_bars) F sc_law_bars (fun cdv A outer s H E hr rc => by
    have hu := hr.units
    exact ⟨_, (dss_cons (ds_if (dt_cmp (kop_neD K hu) s_ne (DE.toB (m := false) (DF.toE (df_lc (own := [("_law_one", 6)]) rfl sc_law_bars.nd (kdi_seq K (db_var 2)) (blkOk_by (own := [("_law_one", 6)]) (N := N_law_bars) (sc := defScope s_law_bars) (by decide +kernel)) (fun _ _ _ _ _ => (dg_name (i := 6) sc_law_bars.nd (by decide))) (fun _ _ _ _ _ => (dts_one (dt_cmp op_lt s_lt (DE.toB (m := false) (kde_ix K (db_var 6) (DE.toB (m := false) de_int))) (DE.toB (m := false) de_int)))) (fun _ _ _ _ _ => (de_var 6))))) (DE.toB (m := false) (DF.toE (df_lst da_nil)))) (dss_one (ds_ret de_bl)) dss_nil)
    (dss_cons (ds_for (vs := [3]) PassesOwn.never rfl (di_range1 (m := true) T.f_range (de_callB (kcall_len K) (kc_len K) (DE.toB (m := false) (kde_ix K (db_var 0) (DE.toB (m := false) de_int))) T.f_len PySem.boot_len)) (dg_name (i := 3) sc_law_bars.nd (by decide)) (dss_one (ds_if (dt_cmp (kop_neD K hu) s_ne (DE.toB (m := false) (kde_ix K (DE.toB (m := false) (kde_callP K (k := 36) h_law_inner (hr.mono (by decide)) (fun _ => RpAll.nil) (da_cons (DF.toE (df_lc (own := [("_law_line", 7)]) rfl sc_law_bars.nd (kdi_seq K (DE.toB (m := false) (kde_ix K (db_var 0) (DE.toB (m := false) de_int)))) (blkOk_by (own := [("_law_line", 7)]) (N := N_law_bars) (sc := defScope s_law_bars) (by decide +kernel)) (fun _ _ _ _ _ => (dg_name (i := 7) sc_law_bars.nd (by decide))) (fun _ _ _ _ _ => dts_nil) (fun _ _ _ _ _ => (kde_ix K (DE.toB (m := false) (kde_ix K (db_var 7) (DE.toB (m := false) de_int))) (db_var 3))))) (da_cons (de_var 2) da_nil)))) (DE.toB (m := false) de_int))) (DE.toB (m := false) de_int)) (dss_one (ds_ret de_bl)) dss_nil)))
    (dss_cons (ds_set (i := 4) sc_law_bars.nd (de_tup (da_cons de_int (da_cons de_int da_nil))))
    (dss_cons (ds_for (vs := [3]) PassesOwn.never rfl (di_range1 (m := true) T.f_range (de_callB (kcall_len K) (kc_len K) (db_var 2) T.f_len PySem.boot_len)) (dg_name (i := 3) sc_law_bars.nd (by decide)) (dss_cons (ds_set (i := 5) sc_law_bars.nd (kde_callP K (k := 35) h_law_plus (hr.mono (by decide)) (fun _ => RpAll.nil) (da_cons (de_tup (da_cons (kde_ix K (DE.toB (m := false) (kde_ix K (DE.toB (m := false) (kde_ix K (db_var 0) (DE.toB (m := false) de_int))) (db_var 3))) (DE.toB (m := false) de_int)) (da_cons de_int da_nil))) (da_cons (kde_callP K (k := 35) h_law_times (hr.mono (by decide)) (fun _ => RpAll.nil) (da_cons (de_tup (da_cons (kde_ix K (DE.toB (m := false) (kde_ix K (DE.toB (m := false) (kde_ix K (db_var 0) (DE.toB (m := false) de_int))) (db_var 3))) (DE.toB (m := false) de_int)) (da_cons de_int da_nil))) (da_cons (de_var 1) da_nil))) da_nil))))
    (dss_one (ds_set (i := 4) sc_law_bars.nd (kde_callP K (k := 35) h_law_plus (hr.mono (by decide)) (fun _ => RpAll.nil) (da_cons (de_var 4) (da_cons (kde_callP K (k := 35) h_law_times (hr.mono (by decide)) (fun _ => RpAll.nil) (da_cons (de_var 5) (da_cons (kde_ix K (db_var 2) (db_var 3)) da_nil))) da_nil)))))))
    (dss_one (ds_ret (de_cmp op_gt s_gt (DE.toB (m := false) (kde_ix K (db_var 4) (DE.toB (m := false) de_int))) (DE.toB (m := false) de_int))))))))⟩)
  have b : Binds K fd ["_law_task_here", "_law_share_here", "_law_weights"] [] := F.bindsN fun _ _ _ _ _ _ us hl => match us, hl with | [_, _, _], _ => rfl
  exact ⟨_, fd, _, _, okP_of ok, T.g_law_bars, F.kp, b, .nil⟩
end WK


namespace WK
open PySem PySem.Spec PyProof.Rows L2 DL PG
variable {P : Program} {w : World} {K : PySem.W.Frag} {mg : Str → Option Value} {base : Heap}
theorem ok_law {fd : FuncData} (T : Top K mg) (F : FunD K "law" "law" (defArgs s_law) (defBody s_law) (defScope s_law) [] [] (He.ga K "law") fd) (hS : base.NoSeer) (ht : P.given.tree = none) (h_law_task : Has P w K mg base "_law_task" 37 [] (spG K F_law_task)) (h_law_share : Has P w K mg base "_law_share" 36 [] (spG K F_law_share)) (h_law_fr : Has P w K mg base "_law_fr" 34 [] (spP K F_law_fr)) (h_law_taken : Has P w K mg base "_law_taken" 34 [] (spG K F_law_taken)) (h_law_number : Has P w K mg base "_law_number" 35 [] (spG K F_law_number)) (h_law_alike : Has P w K mg base "_law_alike" 9 [] (spP K F_law_alike)) (h_law_worth : Has P w K mg base "_law_worth" 37 [] (spP K F_law_worth)) (h_worth : Has P w K mg base "worth" 40 [] (spP K F_worth)) (h_law_gaps : Has P w K mg base "_law_gaps" 37 [] (spP K F_law_gaps)) (h_law_is : Has P w K mg base "_law_is" 1 [] (spP K F_law_is)) (h_is_kept : Has P w K mg base "is_kept" 40 [] (spP K F_is_kept)) (h_law_shows : Has P w K mg base "_law_shows" 38 [] (spP K F_law_shows)) (h_shows : Has P w K mg base "shows" 40 [] (spP K F_shows)) (h_law_bars : Has P w K mg base "_law_bars" 37 [] (spP K F_law_bars)) (h_bars : Has P w K mg base "bars" 40 [] (spP K F_bars)) (h_promise : Has P w K mg base "promise" 40 [] (spP K F_promise)) (h_law_plus : Has P w K mg base "_law_plus" 35 [] (spP K F_law_plus)) (h_law_times : Has P w K mg base "_law_times" 35 [] (spP K F_law_times)) (h_law_less : Has P w K mg base "_law_less" 36 [] (spP K F_law_less)) (h_law_inner : Has P w K mg base "_law_inner" 36 [] (spP K F_law_inner)) (h_law_solved : Has P w K mg base "_law_solved" 36 [] (spP K F_law_solved)) (h_law_below : Has P w K mg base "_law_below" 1 [] (spP K F_law_below)) : FnOk P w K mg base CX0 41 (He.ga K "law") fd ["_law_script"] (spLaw K g_law 20) := by
  refine law_okG (P := P) (w := w) (mg := mg) (base := base) (k := 40) (N := N_law) (p1 := "_law_script") (p2 := "_law_script") (ns := ["_law_task_here", "_law_share_here", "_law_wide", "_law_high", "_law_plan", "_law_gaps_here", "_law_weights", "_law_told", "_law_free", "_law_whole", "_law_at", "_law_cost", "_law_step", "_law_due", "_law_limit", "_law_gap", "_law_one", "_law_line"]) (g := g_law) F sc_law rfl (fun cdv A outer s H E hr => ⟨ps_set (i := 1) sc_law.nd rfl (by first | exact Or.inl rfl | exact Or.inr rfl) (pe_lst (pa_cons (pv 0) (pa_cons pe_int (pa_cons pe_int (pa_cons pe_int pa_nil))))), ?_⟩)
  have hpy : PylongAt (cxOf CX0 P w K mg base N_law "law" (defScope s_law) (He.ga K "law") cdv A outer s H E).nox := pylong_of hS ht rfl rfl rfl rfl rfl hr (by decide); have hu := hr.units
  exact ⟨_, fun rc => (dss_cons (ds_par (i := 2) (j := 3) rfl sc_law.nd (DE.v (kde_callG K (k := 37) h_law_task (hr.mono (by decide)) (dr_row (i := 1) (dr_cons de_int (dr_cons de_int (dr_cons de_int dr_nil)))))) (DE.v (kde_callG K (k := 36) h_law_share (hr.mono (by decide)) (dr_row (i := 1) (dr_cons de_int (dr_cons de_int dr_nil))))) (by decide))
    (dss_cons (ds_par (i := 4) (j := 5) rfl sc_law.nd (DE.v (de_callB (kcall_len K) (kc_len K) (DE.toB (m := false) (kde_ix K (db_var 2) (DE.toB (m := false) de_int))) T.f_len PySem.boot_len)) (DE.v (de_callB (kcall_len K) (kc_len K) (DE.toB (m := false) (kde_ix K (db_var 2) (DE.toB (m := false) de_int))) T.f_len PySem.boot_len)) (by decide))
    (dss_cons (ds_set (i := 6) sc_law.nd (de_callTy (kcall_tuple K) c_tuple (DE.toB (m := false) (DF.toE (df_lc (own := [("_law_at", 12)]) rfl sc_law.nd (di_range1 (m := false) T.f_range (de_var 4)) (blkOk_by (own := [("_law_at", 12)]) (N := N_law) (sc := defScope s_law) (by decide +kernel)) (fun _ _ _ _ _ => (dg_name (i := 12) sc_law.nd (by decide))) (fun _ _ _ _ _ => dts_nil) (fun _ _ _ _ _ => (kde_callP K (k := 34) h_law_fr (hr.mono (by decide)) (fun _ => RpAll.nil) (da_cons (kde_callG K (k := 35) h_law_number (hr.mono (by decide)) (dr_row (i := 1) (dr_cons de_int dr_nil))) (da_cons (de_op op_add s_add (DE.toB (m := false) de_int) (DE.toB (m := false) (kde_callG K (k := 34) h_law_taken (hr.mono (by decide)) (dr_row (i := 1) (dr_cons de_int dr_nil))))) da_nil))))))) T.f_tuple PyProof.Rows.boot_tuple))
    (dss_cons (ds_if (dt_not (dt_val (kde_callP K (k := 9) h_law_alike (hr.mono (by decide)) (fun _ => RpAll.nil) (da_cons (kde_callP K (k := 40) h_worth (hr.mono (by decide)) (fun _ => RpAll.nil) (da_cons (de_var 2) (da_cons (de_var 3) (da_cons (de_var 6) da_nil)))) (da_cons (kde_callP K (k := 37) h_law_worth (hr.mono (by decide)) (fun _ => RpAll.nil) (da_cons (de_var 2) (da_cons (de_var 3) (da_cons (de_var 6) da_nil)))) da_nil))))) (dss_one (ds_ret de_bl)) dss_nil)
    (dss_cons (ds_set (i := 7) sc_law.nd (kde_callP K (k := 37) h_law_gaps (hr.mono (by decide)) (fun _ => RpAll.nil) (da_cons (de_var 2) (da_cons (de_var 3) (da_cons (de_var 6) da_nil)))))
    (dss_cons (ds_if (dt_not (dt_val (kde_callP K (k := 1) h_law_is (hr.mono (by decide)) (fun _ => RpAll.nil) (da_cons (kde_callP K (k := 40) h_is_kept (hr.mono (by decide)) (fun _ => RpAll.nil) (da_cons (de_var 2) (da_cons (de_var 3) (da_cons (de_var 6) da_nil)))) (da_cons (de_cmp (kop_eqD K hu) s_eq (DE.toB (m := false) (DF.toE (df_lc (own := [("_law_gap", 17)]) rfl sc_law.nd (kdi_seq K (db_var 7)) (blkOk_by (own := [("_law_gap", 17)]) (N := N_law) (sc := defScope s_law) (by decide +kernel)) (fun _ _ _ _ _ => (dg_name (i := 17) sc_law.nd (by decide))) (fun _ _ _ _ _ => (dts_one (dt_cmp op_lt s_lt (DE.toB (m := false) (kde_ix K (db_var 17) (DE.toB (m := false) de_int))) (DE.toB (m := false) de_int)))) (fun _ _ _ _ _ => (de_var 17))))) (DE.toB (m := false) (DF.toE (df_lst da_nil)))) da_nil))))) (dss_one (ds_ret de_bl)) dss_nil)
    (dss_cons (ds_set (i := 8) sc_law.nd (de_callTy (kcall_tuple K) c_tuple (DE.toB (m := false) (DF.toE (df_lc (own := [("_law_at", 12)]) rfl sc_law.nd (di_range1 (m := false) T.f_range (de_var 5)) (blkOk_by (own := [("_law_at", 12)]) (N := N_law) (sc := defScope s_law) (by decide +kernel)) (fun _ _ _ _ _ => (dg_name (i := 12) sc_law.nd (by decide))) (fun _ _ _ _ _ => dts_nil) (fun _ _ _ _ _ => (kde_callP K (k := 34) h_law_fr (hr.mono (by decide)) (fun _ => RpAll.nil) (da_cons (de_op op_sub s_sub (DE.toB (m := false) (kde_callG K (k := 34) h_law_taken (hr.mono (by decide)) (dr_row (i := 1) (dr_cons de_int dr_nil)))) (DE.toB (m := false) de_int)) (da_cons (de_op op_add s_add (DE.toB (m := false) de_int) (DE.toB (m := false) (kde_callG K (k := 34) h_law_taken (hr.mono (by decide)) (dr_row (i := 1) (dr_cons de_int dr_nil))))) da_nil))))))) T.f_tuple PyProof.Rows.boot_tuple))
    (dss_cons (ds_if (dt_not (dt_val (kde_callP K (k := 1) h_law_is (hr.mono (by decide)) (fun _ => RpAll.nil) (da_cons (kde_callP K (k := 40) h_shows (hr.mono (by decide)) (fun _ => RpAll.nil) (da_cons (de_var 2) (da_cons (de_var 3) (da_cons (de_var 6) (da_cons (de_var 8) da_nil))))) (da_cons (kde_callP K (k := 38) h_law_shows (hr.mono (by decide)) (fun _ => RpAll.nil) (da_cons (de_var 2) (da_cons (de_var 3) (da_cons (de_var 6) (da_cons (de_var 8) da_nil))))) da_nil))))) (dss_one (ds_ret de_bl)) dss_nil)
    (dss_cons (ds_if (dt_not (dt_val (kde_callP K (k := 1) h_law_is (hr.mono (by decide)) (fun _ => RpAll.nil) (da_cons (kde_callP K (k := 40) h_bars (hr.mono (by decide)) (fun _ => RpAll.nil) (da_cons (de_var 2) (da_cons (de_var 3) (da_cons (de_var 8) da_nil)))) (da_cons (kde_callP K (k := 37) h_law_bars (hr.mono (by decide)) (fun _ => RpAll.nil) (da_cons (de_var 2) (da_cons (de_var 3) (da_cons (de_var 8) da_nil)))) da_nil))))) (dss_one (ds_ret de_bl)) dss_nil)
    (dss_cons (ds_set (i := 9) sc_law.nd (kde_callP K (k := 40) h_promise (hr.mono (by decide)) (fun _ => RpAll.nil) (da_cons (de_var 2) (da_cons (de_var 3) (da_cons (de_var 8) da_nil)))))
    (dss_cons (ds_if (dt_cmp (kop_neD K hu) s_ne (DE.toB (m := false) (DF.toE (df_lc (own := [("_law_one", 18)]) rfl sc_law.nd (kdi_seq K (db_var 8)) (blkOk_by (own := [("_law_one", 18)]) (N := N_law) (sc := defScope s_law) (by decide +kernel)) (fun _ _ _ _ _ => (dg_name (i := 18) sc_law.nd (by decide))) (fun _ _ _ _ _ => (dts_one (dt_cmp op_lt s_lt (DE.toB (m := false) (kde_ix K (db_var 18) (DE.toB (m := false) de_int))) (DE.toB (m := false) de_int)))) (fun _ _ _ _ _ => (de_var 18))))) (DE.toB (m := false) (DF.toE (df_lst da_nil)))) (dss_one (ds_ret (de_isN (db_var 9)))) dss_nil)
    (dss_cons (ds_parC (i := 10) (j := 11) rfl sc_law.nd (DF.v (df_lst da_nil)) (DE.v de_int) (by decide))
    (dss_cons (ds_for (vs := [12]) PassesOwn.never rfl (di_range1 (m := true) T.f_range (de_var 4)) (dg_name (i := 12) sc_law.nd (by decide)) (dss_cons (ds_set (i := 13) sc_law.nd (kde_callP K (k := 35) h_law_plus (hr.mono (by decide)) (fun _ => RpAll.nil) (da_cons (de_tup (da_cons (kde_ix K (DE.toB (m := false) (kde_ix K (db_var 2) (DE.toB (m := false) de_int))) (db_var 12)) (da_cons de_int da_nil))) (da_cons (kde_callP K (k := 35) h_law_times (hr.mono (by decide)) (fun _ => RpAll.nil) (da_cons (de_tup (da_cons (kde_ix K (DE.toB (m := false) (kde_ix K (db_var 2) (DE.toB (m := false) de_int))) (db_var 12)) (da_cons de_int da_nil))) (da_cons (de_var 3) da_nil))) da_nil))))
    (dss_cons (kds_append (i := 10) (kde_callP K (k := 36) h_law_less (hr.mono (by decide)) (fun _ => RpAll.nil) (da_cons (kde_callP K (k := 36) h_law_inner (hr.mono (by decide)) (fun _ => RpAll.nil) (da_cons (DF.toE (df_lc (own := [("_law_line", 19)]) rfl sc_law.nd (kdi_seq K (DE.toB (m := false) (kde_ix K (db_var 2) (DE.toB (m := false) de_int)))) (blkOk_by (own := [("_law_line", 19)]) (N := N_law) (sc := defScope s_law) (by decide +kernel)) (fun _ _ _ _ _ => (dg_name (i := 19) sc_law.nd (by decide))) (fun _ _ _ _ _ => dts_nil) (fun _ _ _ _ _ => (kde_ix K (DE.toB (m := false) (kde_ix K (db_var 19) (DE.toB (m := false) de_int))) (db_var 12))))) (da_cons (de_var 8) da_nil))) (da_cons (de_var 13) da_nil))))
    (dss_one (ds_set (i := 11) sc_law.nd (de_op op_mulM s_mul (db_var 11) (DE.toB (m := false) (kde_ix K (DE.toB (m := false) (kde_ix K (db_var 10) (DE.toB (m := false) (de_neg (DE.toB (m := false) de_int))))) (DE.toB (m := false) de_int)))))))))
    (dss_cons (ds_set (i := 14) sc_law.nd (kde_callP K (k := 36) h_law_solved (hr.mono (by decide)) (fun _ => RpAll.nil) (da_cons (DF.toE (df_lc (own := [("_law_line", 19)]) rfl sc_law.nd (kdi_seq K (DE.toB (m := false) (kde_ix K (db_var 2) (DE.toB (m := false) de_int)))) (blkOk_by (own := [("_law_line", 19)]) (N := N_law) (sc := defScope s_law) (by decide +kernel)) (fun _ _ _ _ _ => (dg_name (i := 19) sc_law.nd (by decide))) (fun _ _ _ _ _ => dts_nil) (fun _ _ _ _ _ => (DF.toE (kdf_listOf K (db_var 19) T.f_list))))) (da_cons (DF.toE (df_lc (own := [("_law_one", 18)]) rfl sc_law.nd (kdi_seq K (db_var 10)) (blkOk_by (own := [("_law_one", 18)]) (N := N_law) (sc := defScope s_law) (by decide +kernel)) (fun _ _ _ _ _ => (dg_name (i := 18) sc_law.nd (by decide))) (fun _ _ _ _ _ => dts_nil) (fun _ _ _ _ _ => (de_op op_mulM s_mul (DE.toB (m := false) (kde_ix K (db_var 18) (DE.toB (m := false) de_int))) (DE.toB (m := false) (de_op (op_divP (pylong_of hS ht rfl rfl rfl rfl rfl hr (by decide))) s_div (db_var 11) (DE.toB (m := false) (kde_ix K (db_var 18) (DE.toB (m := false) de_int))))))))) da_nil))))
    (dss_cons (ds_setLc (own := [("_law_one", 18)]) (i := 14) rfl sc_law.nd rfl rfl (sw_true rfl rfl rfl (by decide +kernel)) (kdi_seq K (db_var 14)) (blkOk_by (own := [("_law_one", 18)]) (N := N_law) (sc := defScope s_law) (by decide +kernel)) (fun _ _ _ _ _ => (dg_name (i := 18) sc_law.nd (by decide))) (fun _ _ _ _ _ => dts_nil) (fun _ _ _ _ _ => (kde_callP K (k := 35) h_law_times (hr.mono (by decide)) (fun _ => RpAll.nil) (da_cons (de_var 18) (da_cons (de_tup (da_cons de_int (da_cons (de_var 11) da_nil))) da_nil)))))
    (dss_cons (ds_set (i := 15) sc_law.nd (de_tup (da_cons de_int (da_cons de_int da_nil))))
    (dss_cons (ds_for (vs := [12]) PassesOwn.never rfl (di_range1 (m := true) T.f_range (de_var 4)) (dg_name (i := 12) sc_law.nd (by decide)) (dss_one (ds_set (i := 15) sc_law.nd (kde_callP K (k := 36) h_law_less (hr.mono (by decide)) (fun _ => RpAll.nil) (da_cons (de_var 15) (da_cons (kde_callP K (k := 35) h_law_times (hr.mono (by decide)) (fun _ => RpAll.nil) (da_cons (de_tup (da_cons de_int (da_cons de_int da_nil))) (da_cons (kde_callP K (k := 35) h_law_times (hr.mono (by decide)) (fun _ => RpAll.nil) (da_cons (kde_ix K (db_var 10) (db_var 12)) (da_cons (kde_ix K (db_var 14) (db_var 12)) da_nil))) da_nil))) da_nil))))))
    (dss_cons (ds_for (vs := [12]) PassesOwn.never rfl (di_range1 (m := true) T.f_range (de_var 5)) (dg_name (i := 12) sc_law.nd (by decide)) (dss_cons (ds_set (i := 16) sc_law.nd (kde_callP K (k := 35) h_law_plus (hr.mono (by decide)) (fun _ => RpAll.nil) (da_cons (de_tup (da_cons (kde_ix K (DE.toB (m := false) (kde_ix K (DE.toB (m := false) (kde_ix K (db_var 2) (DE.toB (m := false) de_int))) (db_var 12))) (DE.toB (m := false) de_int)) (da_cons de_int da_nil))) (da_cons (kde_callP K (k := 35) h_law_times (hr.mono (by decide)) (fun _ => RpAll.nil) (da_cons (de_tup (da_cons (kde_ix K (DE.toB (m := false) (kde_ix K (DE.toB (m := false) (kde_ix K (db_var 2) (DE.toB (m := false) de_int))) (db_var 12))) (DE.toB (m := false) de_int)) (da_cons de_int da_nil))) (da_cons (de_var 3) da_nil))) da_nil))))
    (dss_one (ds_set (i := 15) sc_law.nd (kde_callP K (k := 35) h_law_plus (hr.mono (by decide)) (fun _ => RpAll.nil) (da_cons (de_var 15) (da_cons (kde_callP K (k := 35) h_law_times (hr.mono (by decide)) (fun _ => RpAll.nil) (da_cons (de_var 16) (da_cons (kde_ix K (db_var 8) (db_var 12)) da_nil))) da_nil)))))))
    (dss_cons (ds_if (dt_not (dt_val (kde_callP K (k := 9) h_law_alike (hr.mono (by decide)) (fun _ => RpAll.nil) (da_cons (de_var 9) (da_cons (de_var 15) da_nil))))) (dss_one (ds_ret de_bl)) dss_nil)
    (dss_one (ds_ret (de_or (de_cmp (kop_neD K hu) s_ne (DE.toB (m := false) (DF.toE (df_lc (own := [("_law_gap", 17)]) rfl sc_law.nd (kdi_seq K (db_var 7)) (blkOk_by (own := [("_law_gap", 17)]) (N := N_law) (sc := defScope s_law) (by decide +kernel)) (fun _ _ _ _ _ => (dg_name (i := 17) sc_law.nd (by decide))) (fun _ _ _ _ _ => (dts_one (dt_cmp op_lt s_lt (DE.toB (m := false) (kde_ix K (db_var 17) (DE.toB (m := false) de_int))) (DE.toB (m := false) de_int)))) (fun _ _ _ _ _ => (de_var 17))))) (DE.toB (m := false) (DF.toE (df_lst da_nil)))) (de_one (de_not (kde_callP K (k := 1) h_law_below (hr.mono (by decide)) (fun _ => RpAll.nil) (da_cons (kde_callP K (k := 37) h_law_worth (hr.mono (by decide)) (fun _ => RpAll.nil) (da_cons (de_var 2) (da_cons (de_var 3) (da_cons (de_var 6) da_nil)))) (da_cons (de_var 9) da_nil)))))))))))))))))))))))))))⟩

end WK

set_option maxHeartbeats 0
namespace WK
open PySem PySem.Spec PyProof.Rows L2 DL
def dd_is_int : He.DefD := ⟨("is_int", none), "is_int", "is_int", defArgs (top 7), defBody (top 7), defScope (top 7), [], []⟩
def dd_common : He.DefD := ⟨("common", none), "common", "common", defArgs (top 8), defBody (top 8), defScope (top 8), [], []⟩
def dd_fraction : He.DefD := ⟨("fraction", none), "fraction", "fraction", defArgs (top 9), defBody (top 9), defScope (top 9), [], []⟩
def dd_is_fraction : He.DefD := ⟨("is_fraction", none), "is_fraction", "is_fraction", defArgs (top 10), defBody (top 10), defScope (top 10), [], []⟩
def dd_plus : He.DefD := ⟨("plus", none), "plus", "plus", defArgs (top 11), defBody (top 11), defScope (top 11), [], []⟩
def dd_less : He.DefD := ⟨("less", none), "less", "less", defArgs (top 12), defBody (top 12), defScope (top 12), [], []⟩
def dd_times : He.DefD := ⟨("times", none), "times", "times", defArgs (top 13), defBody (top 13), defScope (top 13), [], []⟩
def dd_over : He.DefD := ⟨("over", none), "over", "over", defArgs (top 14), defBody (top 14), defScope (top 14), [], []⟩
def dd_added : He.DefD := ⟨("added", none), "added", "added", defArgs (top 15), defBody (top 15), defScope (top 15), [.adr (He.dflAt ("added", none) 0)], []⟩
def dd_inner : He.DefD := ⟨("inner", none), "inner", "inner", defArgs (top 16), defBody (top 16), defScope (top 16), [], []⟩
def dd_solved : He.DefD := ⟨("solved", none), "solved", "solved", defArgs (top 17), defBody (top 17), defScope (top 17), [], []⟩
def dd_is_above : He.DefD := ⟨("is_above", none), "is_above", "is_above", defArgs (top 18), defBody (top 18), defScope (top 18), [], []⟩
def dd_is_small : He.DefD := ⟨("is_small", none), "is_small", "is_small", defArgs (top 23), defBody (top 23), defScope (top 23), [], []⟩
def dd_is_row : He.DefD := ⟨("is_row", none), "is_row", "is_row", defArgs (top 24), defBody (top 24), defScope (top 24), [], []⟩
def dd_need_task : He.DefD := ⟨("need_task", none), "need_task", "need_task", defArgs (top 25), defBody (top 25), defScope (top 25), [], []⟩
def dd_is_turned : He.DefD := ⟨("is_turned", none), "is_turned", "is_turned", defArgs (top 26), defBody (top 26), defScope (top 26), [], []⟩
def dd_is_task_row : He.DefD := ⟨("is_task_row", none), "is_task_row", "is_task_row", defArgs (top 27), defBody (top 27), defScope (top 27), [], []⟩
def dd_need_share : He.DefD := ⟨("need_share", none), "need_share", "need_share", defArgs (top 28), defBody (top 28), defScope (top 28), [], []⟩
def dd_need_plan : He.DefD := ⟨("need_plan", none), "need_plan", "need_plan", defArgs (top 29), defBody (top 29), defScope (top 29), [], []⟩
def dd_costs_at : He.DefD := ⟨("costs_at", none), "costs_at", "costs_at", defArgs (top 30), defBody (top 30), defScope (top 30), [], []⟩
def dd_rights_at : He.DefD := ⟨("rights_at", none), "rights_at", "rights_at", defArgs (top 31), defBody (top 31), defScope (top 31), [], []⟩
def dd_slope_of : He.DefD := ⟨("slope_of", none), "slope_of", "slope_of", defArgs (top 32), defBody (top 32), defScope (top 32), [], []⟩
def dd_worth_of : He.DefD := ⟨("worth_of", none), "worth_of", "worth_of", defArgs (top 33), defBody (top 33), defScope (top 33), [], []⟩
def dd_gaps_of : He.DefD := ⟨("gaps_of", none), "gaps_of", "gaps_of", defArgs (top 34), defBody (top 34), defScope (top 34), [], []⟩
def dd_keeps : He.DefD := ⟨("keeps", none), "keeps", "keeps", defArgs (top 35), defBody (top 35), defScope (top 35), [], []⟩
def dd_sum_of_rows : He.DefD := ⟨("sum_of_rows", none), "sum_of_rows", "sum_of_rows", defArgs (top 36), defBody (top 36), defScope (top 36), [], []⟩
def dd_shows_of : He.DefD := ⟨("shows_of", none), "shows_of", "shows_of", defArgs (top 37), defBody (top 37), defScope (top 37), [], []⟩
def dd_promise_of : He.DefD := ⟨("promise_of", none), "promise_of", "promise_of", defArgs (top 38), defBody (top 38), defScope (top 38), [], []⟩
def dd_need_both : He.DefD := ⟨("need_both", none), "need_both", "need_both", defArgs (top 39), defBody (top 39), defScope (top 39), [], []⟩
def dd_worth : He.DefD := ⟨("worth", none), "worth", "worth", defArgs (top 40), defBody (top 40), defScope (top 40), [], []⟩
def dd_is_kept : He.DefD := ⟨("is_kept", none), "is_kept", "is_kept", defArgs (top 41), defBody (top 41), defScope (top 41), [], []⟩
def dd_shows : He.DefD := ⟨("shows", none), "shows", "shows", defArgs (top 42), defBody (top 42), defScope (top 42), [], []⟩
def dd_promise : He.DefD := ⟨("promise", none), "promise", "promise", defArgs (top 43), defBody (top 43), defScope (top 43), [], []⟩
def dd_bars : He.DefD := ⟨("bars", none), "bars", "bars", defArgs (top 44), defBody (top 44), defScope (top 44), [], []⟩
def dd_law_taken : He.DefD := ⟨("_law_taken", none), "_law_taken", "_law_taken", defArgs (top 46), defBody (top 46), defScope (top 46), [], []⟩
def dd_law_alike : He.DefD := ⟨("_law_alike", none), "_law_alike", "_law_alike", defArgs (top 47), defBody (top 47), defScope (top 47), [], []⟩
def dd_law_is : He.DefD := ⟨("_law_is", none), "_law_is", "_law_is", defArgs (top 48), defBody (top 48), defScope (top 48), [], []⟩
def dd_law_fr : He.DefD := ⟨("_law_fr", none), "_law_fr", "_law_fr", defArgs (top 49), defBody (top 49), defScope (top 49), [], []⟩
def dd_law_plus : He.DefD := ⟨("_law_plus", none), "_law_plus", "_law_plus", defArgs (top 50), defBody (top 50), defScope (top 50), [], []⟩
def dd_law_times : He.DefD := ⟨("_law_times", none), "_law_times", "_law_times", defArgs (top 51), defBody (top 51), defScope (top 51), [], []⟩
def dd_law_below : He.DefD := ⟨("_law_below", none), "_law_below", "_law_below", defArgs (top 52), defBody (top 52), defScope (top 52), [], []⟩
def dd_law_number : He.DefD := ⟨("_law_number", none), "_law_number", "_law_number", defArgs (top 53), defBody (top 53), defScope (top 53), [], []⟩
def dd_law_solved : He.DefD := ⟨("_law_solved", none), "_law_solved", "_law_solved", defArgs (top 54), defBody (top 54), defScope (top 54), [], []⟩
def dd_law_less : He.DefD := ⟨("_law_less", none), "_law_less", "_law_less", defArgs (top 55), defBody (top 55), defScope (top 55), [], []⟩
def dd_law_inner : He.DefD := ⟨("_law_inner", none), "_law_inner", "_law_inner", defArgs (top 56), defBody (top 56), defScope (top 56), [], []⟩
def dd_law_squares : He.DefD := ⟨("_law_squares", none), "_law_squares", "_law_squares", defArgs (top 57), defBody (top 57), defScope (top 57), [], []⟩
def dd_law_task : He.DefD := ⟨("_law_task", none), "_law_task", "_law_task", defArgs (top 58), defBody (top 58), defScope (top 58), [], []⟩
def dd_law_share : He.DefD := ⟨("_law_share", none), "_law_share", "_law_share", defArgs (top 59), defBody (top 59), defScope (top 59), [], []⟩
def dd_law_slope : He.DefD := ⟨("_law_slope", none), "_law_slope", "_law_slope", defArgs (top 60), defBody (top 60), defScope (top 60), [], []⟩
def dd_law_gaps : He.DefD := ⟨("_law_gaps", none), "_law_gaps", "_law_gaps", defArgs (top 61), defBody (top 61), defScope (top 61), [], []⟩
def dd_law_worth : He.DefD := ⟨("_law_worth", none), "_law_worth", "_law_worth", defArgs (top 62), defBody (top 62), defScope (top 62), [], []⟩
def dd_law_shows : He.DefD := ⟨("_law_shows", none), "_law_shows", "_law_shows", defArgs (top 63), defBody (top 63), defScope (top 63), [], []⟩
def dd_law_bars : He.DefD := ⟨("_law_bars", none), "_law_bars", "_law_bars", defArgs (top 64), defBody (top 64), defScope (top 64), [], []⟩
def dd_law : He.DefD := ⟨("law", none), "law", "law", defArgs (top 65), defBody (top 65), defScope (top 65), [], []⟩
def fn : List He.DefD := [dd_is_int, dd_common, dd_fraction, dd_is_fraction, dd_plus, dd_less, dd_times, dd_over, dd_added, dd_inner, dd_solved, dd_is_above, dd_is_small, dd_is_row, dd_need_task, dd_is_turned, dd_is_task_row, dd_need_share, dd_need_plan, dd_costs_at, dd_rights_at, dd_slope_of, dd_worth_of, dd_gaps_of, dd_keeps, dd_sum_of_rows, dd_shows_of, dd_promise_of, dd_need_both, dd_worth, dd_is_kept, dd_shows, dd_promise, dd_bars, dd_law_taken, dd_law_alike, dd_law_is, dd_law_fr, dd_law_plus, dd_law_times, dd_law_below, dd_law_number, dd_law_solved, dd_law_less, dd_law_inner, dd_law_squares, dd_law_task, dd_law_share, dd_law_slope, dd_law_gaps, dd_law_worth, dd_law_shows, dd_law_bars, dd_law]
def fa : List He.Fa := [.glo "is_int", .glo "common", .glo "fraction", .glo "is_fraction", .glo "plus", .glo "less", .glo "times", .glo "over", .glo "added", .glo "inner", .glo "solved", .glo "is_above", .glo "is_small", .glo "is_row", .glo "need_task", .glo "is_turned", .glo "is_task_row", .glo "need_share", .glo "need_plan", .glo "costs_at", .glo "rights_at", .glo "slope_of", .glo "worth_of", .glo "gaps_of", .glo "keeps", .glo "sum_of_rows", .glo "shows_of", .glo "promise_of", .glo "need_both", .glo "worth", .glo "is_kept", .glo "shows", .glo "promise", .glo "bars", .glo "_law_taken", .glo "_law_alike", .glo "_law_is", .glo "_law_fr", .glo "_law_plus", .glo "_law_times", .glo "_law_below", .glo "_law_number", .glo "_law_solved", .glo "_law_less", .glo "_law_inner", .glo "_law_squares", .glo "_law_task", .glo "_law_share", .glo "_law_slope", .glo "_law_gaps", .glo "_law_worth", .glo "_law_shows", .glo "_law_bars", .glo "law", .free "abs", .free "all", .free "any", .free "bool", .free "enumerate", .free "int", .free "isinstance", .free "len", .free "list", .free "max", .free "range", .free "str", .free "sum", .free "tuple", .free "zip", .int "MOST_WIDE" 4, .int "MOST_HIGH" 8, .int "MOST_GIVEN" 1000, .glo "NOUGHT"]
def ex (K : PySem.W.Frag) : Bool := tupBA K (He.ga K "NOUGHT") [0, 1] && tupBA K (He.dflAt ("added", none) 0 K) [1, 1]
def loose : List PySem.Str := (["SquareError", "BadTask", "BadShare", "BadPlan", "NOUGHT", "is_int", "common", "fraction", "is_fraction", "plus", "less", "times", "over", "added", "inner", "solved", "is_above", "MOST_WIDE", "MOST_HIGH", "MOST_GIVEN", "is_small", "is_row", "need_task", "is_turned", "is_task_row", "need_share", "need_plan", "costs_at", "rights_at", "slope_of"] : List PySem.Str) ++ (["worth_of", "gaps_of", "keeps", "sum_of_rows", "shows_of", "promise_of", "need_both", "worth", "is_kept", "shows", "promise", "bars", "_law_taken", "_law_alike", "_law_is", "_law_fr", "_law_plus", "_law_times", "_law_below", "_law_number", "_law_solved", "_law_less", "_law_inner", "_law_squares", "_law_task", "_law_share", "_law_slope", "_law_gaps", "_law_worth", "_law_shows"] : List PySem.Str) ++ (["_law_bars"] : List PySem.Str)
abbrev R : PySem.W.OpenRow := PySem.W.OpenLaw.row PySem.Challenge.rw_squarepaths_k00_whole_worths
abbrev hk : PySem.W.Hook := He.hookX 5 fa fn [] [] ex
def ob (s : PySem.W.SharedT) : He.AlX := He.obsX 5 fa fn [] [] ex (HandSHeadRun.getT s)
theorem ob_eq (s : PySem.W.SharedT) : ob s = hk.obs s.abs := He.obsX_eq (HandSHeadRun.getT_eq s)
theorem run (w : World) : HandSHeadRun.RunEq R (PySem.W.view R.prog [65]) hk ob 6000 loose w := by
  intro os
  kernel_rfl
theorem topfacts {w : World} {K : PySem.W.Frag} {h : Heap} {mg : Str → Option Value} (X : K.In h) (G : h.Ns mainGlobals mg) (c : He.SaysX fa fn [] [] ex w h K) : Top K mg := by
  have e := c.more
  unfold ex at e
  simp only [Bool.and_eq_true] at e
  obtain ⟨e0, e1⟩ := e
  exact {
    f_abs := He.free_ok X G (c.t.d.fact 54 (f := .free "abs") rfl),
    f_all := He.free_ok X G (c.t.d.fact 55 (f := .free "all") rfl),
    f_any := He.free_ok X G (c.t.d.fact 56 (f := .free "any") rfl),
    f_bool := He.free_ok X G (c.t.d.fact 57 (f := .free "bool") rfl),
    f_enumerate := He.free_ok X G (c.t.d.fact 58 (f := .free "enumerate") rfl),
    f_int := He.free_ok X G (c.t.d.fact 59 (f := .free "int") rfl),
    f_isinstance := He.free_ok X G (c.t.d.fact 60 (f := .free "isinstance") rfl),
    f_len := He.free_ok X G (c.t.d.fact 61 (f := .free "len") rfl),
    f_list := He.free_ok X G (c.t.d.fact 62 (f := .free "list") rfl),
    f_max := He.free_ok X G (c.t.d.fact 63 (f := .free "max") rfl),
    f_range := He.free_ok X G (c.t.d.fact 64 (f := .free "range") rfl),
    f_str := He.free_ok X G (c.t.d.fact 65 (f := .free "str") rfl),
    f_sum := He.free_ok X G (c.t.d.fact 66 (f := .free "sum") rfl),
    f_tuple := He.free_ok X G (c.t.d.fact 67 (f := .free "tuple") rfl),
    f_zip := He.free_ok X G (c.t.d.fact 68 (f := .free "zip") rfl),
    d_is_int := c.t.d.def_ 0 (d := dd_is_int) rfl,
    g_is_int := He.glo_ok X G (c.t.d.fact 0 (f := .glo "is_int") rfl),
    d_common := c.t.d.def_ 1 (d := dd_common) rfl,
    g_common := He.glo_ok X G (c.t.d.fact 1 (f := .glo "common") rfl),
    d_fraction := c.t.d.def_ 2 (d := dd_fraction) rfl,
    g_fraction := He.glo_ok X G (c.t.d.fact 2 (f := .glo "fraction") rfl),
    d_is_fraction := c.t.d.def_ 3 (d := dd_is_fraction) rfl,
    g_is_fraction := He.glo_ok X G (c.t.d.fact 3 (f := .glo "is_fraction") rfl),
    d_plus := c.t.d.def_ 4 (d := dd_plus) rfl,
    g_plus := He.glo_ok X G (c.t.d.fact 4 (f := .glo "plus") rfl),
    d_less := c.t.d.def_ 5 (d := dd_less) rfl,
    g_less := He.glo_ok X G (c.t.d.fact 5 (f := .glo "less") rfl),
    d_times := c.t.d.def_ 6 (d := dd_times) rfl,
    g_times := He.glo_ok X G (c.t.d.fact 6 (f := .glo "times") rfl),
    d_over := c.t.d.def_ 7 (d := dd_over) rfl,
    g_over := He.glo_ok X G (c.t.d.fact 7 (f := .glo "over") rfl),
    d_added := c.t.d.def_ 8 (d := dd_added) rfl,
    g_added := He.glo_ok X G (c.t.d.fact 8 (f := .glo "added") rfl),
    dfl_added := fun H => .cons (rp_tupBA e1 H) .nil,
    d_inner := c.t.d.def_ 9 (d := dd_inner) rfl,
    g_inner := He.glo_ok X G (c.t.d.fact 9 (f := .glo "inner") rfl),
    d_solved := c.t.d.def_ 10 (d := dd_solved) rfl,
    g_solved := He.glo_ok X G (c.t.d.fact 10 (f := .glo "solved") rfl),
    d_is_above := c.t.d.def_ 11 (d := dd_is_above) rfl,
    g_is_above := He.glo_ok X G (c.t.d.fact 11 (f := .glo "is_above") rfl),
    d_is_small := c.t.d.def_ 12 (d := dd_is_small) rfl,
    g_is_small := He.glo_ok X G (c.t.d.fact 12 (f := .glo "is_small") rfl),
    d_is_row := c.t.d.def_ 13 (d := dd_is_row) rfl,
    g_is_row := He.glo_ok X G (c.t.d.fact 13 (f := .glo "is_row") rfl),
    d_need_task := c.t.d.def_ 14 (d := dd_need_task) rfl,
    g_need_task := He.glo_ok X G (c.t.d.fact 14 (f := .glo "need_task") rfl),
    d_is_turned := c.t.d.def_ 15 (d := dd_is_turned) rfl,
    g_is_turned := He.glo_ok X G (c.t.d.fact 15 (f := .glo "is_turned") rfl),
    d_is_task_row := c.t.d.def_ 16 (d := dd_is_task_row) rfl,
    g_is_task_row := He.glo_ok X G (c.t.d.fact 16 (f := .glo "is_task_row") rfl),
    d_need_share := c.t.d.def_ 17 (d := dd_need_share) rfl,
    g_need_share := He.glo_ok X G (c.t.d.fact 17 (f := .glo "need_share") rfl),
    d_need_plan := c.t.d.def_ 18 (d := dd_need_plan) rfl,
    g_need_plan := He.glo_ok X G (c.t.d.fact 18 (f := .glo "need_plan") rfl),
    d_costs_at := c.t.d.def_ 19 (d := dd_costs_at) rfl,
    g_costs_at := He.glo_ok X G (c.t.d.fact 19 (f := .glo "costs_at") rfl),
    d_rights_at := c.t.d.def_ 20 (d := dd_rights_at) rfl,
    g_rights_at := He.glo_ok X G (c.t.d.fact 20 (f := .glo "rights_at") rfl),
    d_slope_of := c.t.d.def_ 21 (d := dd_slope_of) rfl,
    g_slope_of := He.glo_ok X G (c.t.d.fact 21 (f := .glo "slope_of") rfl),
    d_worth_of := c.t.d.def_ 22 (d := dd_worth_of) rfl,
    g_worth_of := He.glo_ok X G (c.t.d.fact 22 (f := .glo "worth_of") rfl),
    d_gaps_of := c.t.d.def_ 23 (d := dd_gaps_of) rfl,
    g_gaps_of := He.glo_ok X G (c.t.d.fact 23 (f := .glo "gaps_of") rfl),
    d_keeps := c.t.d.def_ 24 (d := dd_keeps) rfl,
    g_keeps := He.glo_ok X G (c.t.d.fact 24 (f := .glo "keeps") rfl),
    d_sum_of_rows := c.t.d.def_ 25 (d := dd_sum_of_rows) rfl,
    g_sum_of_rows := He.glo_ok X G (c.t.d.fact 25 (f := .glo "sum_of_rows") rfl),
    d_shows_of := c.t.d.def_ 26 (d := dd_shows_of) rfl,
    g_shows_of := He.glo_ok X G (c.t.d.fact 26 (f := .glo "shows_of") rfl),
    d_promise_of := c.t.d.def_ 27 (d := dd_promise_of) rfl,
    g_promise_of := He.glo_ok X G (c.t.d.fact 27 (f := .glo "promise_of") rfl),
    d_need_both := c.t.d.def_ 28 (d := dd_need_both) rfl,
    g_need_both := He.glo_ok X G (c.t.d.fact 28 (f := .glo "need_both") rfl),
    d_worth := c.t.d.def_ 29 (d := dd_worth) rfl,
    g_worth := He.glo_ok X G (c.t.d.fact 29 (f := .glo "worth") rfl),
    d_is_kept := c.t.d.def_ 30 (d := dd_is_kept) rfl,
    g_is_kept := He.glo_ok X G (c.t.d.fact 30 (f := .glo "is_kept") rfl),
    d_shows := c.t.d.def_ 31 (d := dd_shows) rfl,
    g_shows := He.glo_ok X G (c.t.d.fact 31 (f := .glo "shows") rfl),
    d_promise := c.t.d.def_ 32 (d := dd_promise) rfl,
    g_promise := He.glo_ok X G (c.t.d.fact 32 (f := .glo "promise") rfl),
    d_bars := c.t.d.def_ 33 (d := dd_bars) rfl,
    g_bars := He.glo_ok X G (c.t.d.fact 33 (f := .glo "bars") rfl),
    d_law_taken := c.t.d.def_ 34 (d := dd_law_taken) rfl,
    g_law_taken := He.glo_ok X G (c.t.d.fact 34 (f := .glo "_law_taken") rfl),
    d_law_alike := c.t.d.def_ 35 (d := dd_law_alike) rfl,
    g_law_alike := He.glo_ok X G (c.t.d.fact 35 (f := .glo "_law_alike") rfl),
    d_law_is := c.t.d.def_ 36 (d := dd_law_is) rfl,
    g_law_is := He.glo_ok X G (c.t.d.fact 36 (f := .glo "_law_is") rfl),
    d_law_fr := c.t.d.def_ 37 (d := dd_law_fr) rfl,
    g_law_fr := He.glo_ok X G (c.t.d.fact 37 (f := .glo "_law_fr") rfl),
    d_law_plus := c.t.d.def_ 38 (d := dd_law_plus) rfl,
    g_law_plus := He.glo_ok X G (c.t.d.fact 38 (f := .glo "_law_plus") rfl),
    d_law_times := c.t.d.def_ 39 (d := dd_law_times) rfl,
    g_law_times := He.glo_ok X G (c.t.d.fact 39 (f := .glo "_law_times") rfl),
    d_law_below := c.t.d.def_ 40 (d := dd_law_below) rfl,
    g_law_below := He.glo_ok X G (c.t.d.fact 40 (f := .glo "_law_below") rfl),
    d_law_number := c.t.d.def_ 41 (d := dd_law_number) rfl,
    g_law_number := He.glo_ok X G (c.t.d.fact 41 (f := .glo "_law_number") rfl),
    d_law_solved := c.t.d.def_ 42 (d := dd_law_solved) rfl,
    g_law_solved := He.glo_ok X G (c.t.d.fact 42 (f := .glo "_law_solved") rfl),
    d_law_less := c.t.d.def_ 43 (d := dd_law_less) rfl,
    g_law_less := He.glo_ok X G (c.t.d.fact 43 (f := .glo "_law_less") rfl),
    d_law_inner := c.t.d.def_ 44 (d := dd_law_inner) rfl,
    g_law_inner := He.glo_ok X G (c.t.d.fact 44 (f := .glo "_law_inner") rfl),
    d_law_squares := c.t.d.def_ 45 (d := dd_law_squares) rfl,
    g_law_squares := He.glo_ok X G (c.t.d.fact 45 (f := .glo "_law_squares") rfl),
    d_law_task := c.t.d.def_ 46 (d := dd_law_task) rfl,
    g_law_task := He.glo_ok X G (c.t.d.fact 46 (f := .glo "_law_task") rfl),
    d_law_share := c.t.d.def_ 47 (d := dd_law_share) rfl,
    g_law_share := He.glo_ok X G (c.t.d.fact 47 (f := .glo "_law_share") rfl),
    d_law_slope := c.t.d.def_ 48 (d := dd_law_slope) rfl,
    g_law_slope := He.glo_ok X G (c.t.d.fact 48 (f := .glo "_law_slope") rfl),
    d_law_gaps := c.t.d.def_ 49 (d := dd_law_gaps) rfl,
    g_law_gaps := He.glo_ok X G (c.t.d.fact 49 (f := .glo "_law_gaps") rfl),
    d_law_worth := c.t.d.def_ 50 (d := dd_law_worth) rfl,
    g_law_worth := He.glo_ok X G (c.t.d.fact 50 (f := .glo "_law_worth") rfl),
    d_law_shows := c.t.d.def_ 51 (d := dd_law_shows) rfl,
    g_law_shows := He.glo_ok X G (c.t.d.fact 51 (f := .glo "_law_shows") rfl),
    d_law_bars := c.t.d.def_ 52 (d := dd_law_bars) rfl,
    g_law_bars := He.glo_ok X G (c.t.d.fact 52 (f := .glo "_law_bars") rfl),
    d_law := c.t.d.def_ 53 (d := dd_law) rfl,
    g_law := He.glo_ok X G (c.t.d.fact 53 (f := .glo "law") rfl),
    c_NOUGHT := ⟨⟨_, PySem.W.mg_of X G (He.eqO_ok (c.t.d.fact 72 (f := .glo "NOUGHT") rfl)), rfl⟩, rp_tupBA e0⟩,
    c_MOST_WIDE := let ⟨t, q⟩ := He.int_ok X G (c.t.d.fact 69 (f := .int "MOST_WIDE" 4) rfl); ⟨⟨_, q, ⟨t, rfl⟩⟩, fun _ => .int _⟩,
    c_MOST_HIGH := let ⟨t, q⟩ := He.int_ok X G (c.t.d.fact 70 (f := .int "MOST_HIGH" 8) rfl); ⟨⟨_, q, ⟨t, rfl⟩⟩, fun _ => .int _⟩,
    c_MOST_GIVEN := let ⟨t, q⟩ := He.int_ok X G (c.t.d.fact 71 (f := .int "MOST_GIVEN" 1000) rfl); ⟨⟨_, q, ⟨t, rfl⟩⟩, fun _ => .int _⟩ }
section
variable {P : Program} {w : World} {K : PySem.W.Frag} {mg : Str → Option Value} {base : Heap}
theorem walks {fd : FuncData} (T : Top K mg) (F : FunD K "law" "law" (defArgs s_law) (defBody s_law) (defScope s_law) [] [] (He.ga K "law") fd) (hS : base.NoSeer) (ht : P.given.tree = none) : FnOk P w K mg base CX0 41 (He.ga K "law") fd ["_law_script"] (spLaw K PG.g_law 20) := by
  have h_is_int := ok_is_int (P := P) (w := w) (mg := mg) (base := base) T 
  have h_common := ok_common (P := P) (w := w) (mg := mg) (base := base) T 
  have h_fraction := ok_fraction (P := P) (w := w) (mg := mg) (base := base) T hS ht h_common
  have h_is_fraction := ok_is_fraction (P := P) (w := w) (mg := mg) (base := base) T h_is_int h_common
  have h_plus := ok_plus (P := P) (w := w) (mg := mg) (base := base) T h_fraction
  have h_less := ok_less (P := P) (w := w) (mg := mg) (base := base) T h_fraction
  have h_times := ok_times (P := P) (w := w) (mg := mg) (base := base) T h_fraction
  have h_over := ok_over (P := P) (w := w) (mg := mg) (base := base) T h_fraction
  obtain ⟨fd_added, F_added⟩ := T.d_added
  have q_added := ok0_added (P := P) (w := w) (mg := mg) (base := base) T h_plus h_times F_added
  obtain ⟨ds_added, v_added, b_added⟩ := F_added.binds1 (ps := ["one", "other", "many"]) 3 1 (by simp) rfl (fun T kV doc pm an cdv ct us its h1 h2 => match us, its, h1, h2 with | [_, _, _], [_], _, _ => ⟨_, rfl, rfl⟩)
  have h_added : Has P w K mg base "added" 36 [] (spP K PG.F_added) := ⟨_, fd_added, _, _, q_added, T.g_added, F_added.kp, b_added, v_added⟩
  obtain ⟨ds_added1, v_added1, b_added1⟩ := F_added.binds1 (ps := ["one", "other", "many"]) 2 0 (by simp) rfl (fun T kV doc pm an cdv ct us its h1 h2 => match us, its, h1, h2 with | [_, _], [_], _, _ => ⟨_, rfl, rfl⟩)
  have h_added1 : Has P w K mg base "added" 36 [.ref (He.dflAt ("added", none) 0 K)] (spP K PG.F_added) := ⟨_, fd_added, _, _, q_added, T.g_added, F_added.kp, b_added1, v_added1⟩
  have h_inner := ok_inner (P := P) (w := w) (mg := mg) (base := base) T h_plus h_times
  have h_solved := ok_solved (P := P) (w := w) (mg := mg) (base := base) T h_over h_added
  have h_is_above := ok_is_above (P := P) (w := w) (mg := mg) (base := base) T h_over h_added
  have h_is_small := ok_is_small (P := P) (w := w) (mg := mg) (base := base) T h_is_int
  have h_is_row := ok_is_row (P := P) (w := w) (mg := mg) (base := base) T h_is_small
  have h_is_turned := ok_is_turned (P := P) (w := w) (mg := mg) (base := base) T 
  have h_is_task_row := ok_is_task_row (P := P) (w := w) (mg := mg) (base := base) T h_is_row h_is_small
  have h_need_task := ok_need_task (P := P) (w := w) (mg := mg) (base := base) T h_is_row h_is_turned h_is_above h_is_task_row
  have h_need_share := ok_need_share (P := P) (w := w) (mg := mg) (base := base) T h_is_fraction
  have h_need_plan := ok_need_plan (P := P) (w := w) (mg := mg) (base := base) T h_is_fraction
  have h_costs_at := ok_costs_at (P := P) (w := w) (mg := mg) (base := base) T h_plus h_times
  have h_rights_at := ok_rights_at (P := P) (w := w) (mg := mg) (base := base) T h_plus h_times
  have h_slope_of := ok_slope_of (P := P) (w := w) (mg := mg) (base := base) T h_added1 h_costs_at h_inner
  have h_worth_of := ok_worth_of (P := P) (w := w) (mg := mg) (base := base) T h_costs_at h_plus h_times h_over h_inner
  have h_gaps_of := ok_gaps_of (P := P) (w := w) (mg := mg) (base := base) T h_rights_at h_less h_inner
  have h_keeps := ok_keeps (P := P) (w := w) (mg := mg) (base := base) T h_gaps_of
  have h_sum_of_rows := ok_sum_of_rows (P := P) (w := w) (mg := mg) (base := base) T h_added
  have h_shows_of := ok_shows_of (P := P) (w := w) (mg := mg) (base := base) T h_gaps_of h_slope_of h_sum_of_rows
  have h_promise_of := ok_promise_of (P := P) (w := w) (mg := mg) (base := base) T h_added h_costs_at h_sum_of_rows h_solved h_less h_over h_times h_rights_at h_plus
  have h_need_both := ok_need_both (P := P) (w := w) (mg := mg) (base := base) T h_need_task h_need_share
  have h_worth := ok_worth (P := P) (w := w) (mg := mg) (base := base) T h_need_both h_need_plan h_worth_of
  have h_is_kept := ok_is_kept (P := P) (w := w) (mg := mg) (base := base) T h_need_both h_need_plan h_keeps
  have h_shows := ok_shows (P := P) (w := w) (mg := mg) (base := base) T h_need_both h_need_plan h_shows_of
  have h_promise := ok_promise (P := P) (w := w) (mg := mg) (base := base) T h_need_both h_need_plan h_promise_of
  have h_bars := ok_bars (P := P) (w := w) (mg := mg) (base := base) T h_need_both h_need_plan h_sum_of_rows h_rights_at h_plus h_times
  have h_law_taken := ok_law_taken (P := P) (w := w) (mg := mg) (base := base) T hS ht 
  have h_law_alike := ok_law_alike (P := P) (w := w) (mg := mg) (base := base) T 
  have h_law_is := ok_law_is (P := P) (w := w) (mg := mg) (base := base) T 
  have h_law_fr := ok_law_fr (P := P) (w := w) (mg := mg) (base := base) T hS ht 
  have h_law_plus := ok_law_plus (P := P) (w := w) (mg := mg) (base := base) T h_law_fr
  have h_law_times := ok_law_times (P := P) (w := w) (mg := mg) (base := base) T h_law_fr
  have h_law_below := ok_law_below (P := P) (w := w) (mg := mg) (base := base) T 
  have h_law_number := ok_law_number (P := P) (w := w) (mg := mg) (base := base) T h_law_taken
  have h_law_solved := ok_law_solved (P := P) (w := w) (mg := mg) (base := base) T h_law_times h_law_fr h_law_plus
  have h_law_less := ok_law_less (P := P) (w := w) (mg := mg) (base := base) T h_law_plus
  have h_law_inner := ok_law_inner (P := P) (w := w) (mg := mg) (base := base) T h_law_plus h_law_times
  have h_law_squares := ok_law_squares (P := P) (w := w) (mg := mg) (base := base) T h_law_number h_law_taken
  have h_law_task := ok_law_task (P := P) (w := w) (mg := mg) (base := base) T h_law_taken h_law_squares h_law_number
  have h_law_share := ok_law_share (P := P) (w := w) (mg := mg) (base := base) T h_law_fr h_law_taken h_law_number
  have h_law_slope := ok_law_slope (P := P) (w := w) (mg := mg) (base := base) T h_law_plus h_law_times h_law_inner
  have h_law_gaps := ok_law_gaps (P := P) (w := w) (mg := mg) (base := base) T h_law_plus h_law_times h_law_less h_law_inner
  have h_law_worth := ok_law_worth (P := P) (w := w) (mg := mg) (base := base) T h_law_plus h_law_times h_law_inner
  have h_law_shows := ok_law_shows (P := P) (w := w) (mg := mg) (base := base) T h_law_gaps h_law_slope h_law_inner
  have h_law_bars := ok_law_bars (P := P) (w := w) (mg := mg) (base := base) T h_law_inner h_law_plus h_law_times
  exact ok_law T F hS ht h_law_task h_law_share h_law_fr h_law_taken h_law_number h_law_alike h_law_worth h_worth h_law_gaps h_law_is h_is_kept h_law_shows h_shows h_law_bars h_bars h_promise h_law_plus h_law_times h_law_less h_law_inner h_law_solved h_law_below
end
end WK
open PySem PySem.W PySem.Calls PyProof.Rows
theorem PySem.Challenge.cw_squarepaths_k00_whole_worths_holds : PySem.Challenge.rw_squarepaths_k00_whole_worths.Holds := by
  w_on; o_law
  refine HandSHeadRun.head_any (r := OpenLaw.row PySem.Challenge.rw_squarepaths_k00_whole_worths) (q := view (OpenLaw.row PySem.Challenge.rw_squarepaths_k00_whole_worths).prog [65]) (H := WK.hk) (ob := WK.ob) (M := 6000) (loose := WK.loose) (d := HandSHeadRun.topDef (OpenLaw.row PySem.Challenge.rw_squarepaths_k00_whole_worths).prog 65) (kwd := []) WK.ob_eq
    (by kernel_rfl) (fun s => by kernel_rfl) WK.run (by kernel_rfl) (by kernel_rfl) (by kernel_rfl) (by rfl) (by first | assumption | decide +kernel) (by decide +kernel) ⟨rfl, rfl, rfl, rfl, rfl, by decide +kernel⟩ ?hw ?hc
  case hw => w_witness2
  case hc =>
    refine DL.walk_ofS (l := PySem.Challenge.rw_squarepaths_k00_whole_worths) (n := 63) (k := 41) (x := "_law_script") rfl (by decide) (by kernel_rfl) ⟨rfl, by decide, by decide⟩ (by kernel_rfl) ?F
    intro w mg fa h Y G hmg0
    obtain ⟨K, KX, c⟩ := Y
    have hmg : mg ("law" : PySem.Str) = some (.ref fa) := by
      have e : (HandSHeadRun.topDef (OpenLaw.row PySem.Challenge.rw_squarepaths_k00_whole_worths).prog 65).name = ("law" : PySem.Str) := by kernel_rfl
      rw [← e]
      exact hmg0
    have T := WK.topfacts KX G c
    have e := hmg.symm.trans T.g_law
    cases e
    obtain ⟨fd, F⟩ := T.d_law
    have b := L2.FunD.bindsA (ps := ["_law_script"]) F fun _ _ _ _ _ _ us hl => match us, hl with | [_], _ => rfl
    exact ⟨K, fd, DL.spLaw K PG.g_law 20, KX, fun s v => b s [v] rfl, fun H a ns hl hS => ⟨a, ns, rfl, hS, PU.law_true ns hl, fun _ => rfl⟩, fun base KB GB SB => WK.walks (P := (PySem.Challenge.rw_squarepaths_k00_whole_worths).prog) (w := w) (mg := mg) T F SB rfl⟩
