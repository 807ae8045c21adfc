import PyProof.Rows.All
import HandS.Defaults
import HandS.ForExc
import HandS.ForMost
import HandS.Head0
import HandS.Head1
import HandS.Head2
import HandS.HeadEnd
import HandS.HeadHook1
import HandS.HeadHook2
import HandS.HeadHook3
import HandS.HeadHook4
import HandS.IsInst
import HandS.More
import HandS.SortInts
import HandS.Star
import HandS.Style
import HandS.TupAny
import HandS.TupMul
import HandS.Walk
import HandS.Wide
import HandS.Zip
import KE.GoesEnum
import KE.GoesMore
import KE.GoesNew
import KE.GoesZip
import KE.KDictZip
import KE.KTupSum
import OpenK.AllK
import PyProof.NoPylong
import Wide.All
import Wide.FinOn
import PySem.Challenge.RW_squarepaths_k05_whole_rising_rows
set_option Elab.async false
set_option linter.all false
set_option maxRecDepth 100000
set_option maxHeartbeats 4000000
/-! # A layer of data over HandS: values by what they are (PyData), each construct's total meaning -/
namespace DL
open PySem PySem.Spec PyProof.Rows L2
abbrev D := PyData
abbrev Row := List Int × Int × Int × Int
/-! ### what a value is -/
mutual
inductive Rp (K : PySem.W.Frag) (H : Hp) : V → D → Prop
  | non : Rp K H .non .none
  | bl (b : Bool) : Rp K H (.bl b) (.bool b)
  | int (i : Int) : Rp K H (.int i) (.int i)
  | str (x : Str) : Rp K H (.str x) (.str x)
  | lst {a : Addr} {xs : List V} {ds : List D} : H a = some (.lst xs) → RpAll K H xs ds → Rp K H (.ref a) (.list ds)
  | tup {a : Addr} {xs : List V} {ds : List D} : SqT K H a xs → RpAll K H xs ds → Rp K H (.ref a) (.tuple ds)
inductive RpAll (K : PySem.W.Frag) (H : Hp) : List V → List D → Prop
  | nil : RpAll K H [] []
  | cons {v : V} {vs : List V} {d : D} {ds : List D} : Rp K H v d → RpAll K H vs ds → RpAll K H (v :: vs) (d :: ds)
end
theorem seqT_same {K : PySem.W.Frag} {H H' : Hp} {a : Addr} {xs : List V} (e : Same H H') (h : SqT K H a xs) : SqT K H' a xs := by
  rcases h with (h | ⟨o, h⟩) | h
  · exact .inl (.inl (e _ _ h))
  · exact .inl (.inr ⟨o, e _ _ h⟩)
  · exact .inr h
section
variable {K : PySem.W.Frag} {H H' : Hp}
mutual
theorem Rp.mono (e : Same H H') : ∀ {v : V} {d : D}, Rp K H v d → Rp K H' v d
  | _, _, .non => .non
  | _, _, .bl b => .bl b
  | _, _, .int i => .int i
  | _, _, .str x => .str x
  | _, _, .lst h r => .lst (e _ _ h) (RpAll.mono e r)
  | _, _, .tup h r => .tup (seqT_same e h) (RpAll.mono e r)
theorem RpAll.mono (e : Same H H') : ∀ {v : List V} {d : List D}, RpAll K H v d → RpAll K H' v d
  | _, _, .nil => .nil
  | _, _, .cons h r => .cons (Rp.mono e h) (RpAll.mono e r)
end
mutual
theorem Rp.dp : ∀ {v : V} {d : D}, Rp K H v d → Dp K H v d
  | _, _, .non => .non
  | _, _, .bl b => .bl b
  | _, _, .int i => .int i
  | _, _, .str x => .str x
  | _, _, .lst h r => .lst (SqL.of h) (RpAll.dp r)
  | _, _, .tup h r => .tup h (RpAll.dp r)
theorem RpAll.dp : ∀ {v : List V} {d : List D}, RpAll K H v d → DpAll K H v d
  | _, _, .nil => .nil
  | _, _, .cons h r => .cons (Rp.dp h) (RpAll.dp r)
end
theorem RpAll.length : ∀ {vs : List V} {ds : List D}, RpAll K H vs ds → vs.length = ds.length
  | _, _, .nil => rfl
  | _, _, .cons _ r => congrArg (· + 1) r.length
theorem RpAll.get : ∀ {vs : List V} {ds : List D} {i : Nat} {d : D}, RpAll K H vs ds → ds[i]? = some d → ∃ v, vs[i]? = some v ∧ Rp K H v d
  | _, _, _, _, .nil, e => by simp at e
  | _, _, 0, _, .cons r _, e => by simp at e; subst e; exact ⟨_, rfl, r⟩
  | _, _, i + 1, d, .cons _ t, e => by
    obtain ⟨u, h1, h2⟩ := RpAll.get (i := i) (d := d) t (by simpa using e)
    exact ⟨u, by simpa using h1, h2⟩
theorem RpAll.getV : ∀ {vs : List V} {ds : List D} {i : Nat} {v : V}, RpAll K H vs ds → vs[i]? = some v → ∃ d, ds[i]? = some d ∧ Rp K H v d
  | _, _, _, _, .nil, e => by simp at e
  | _, _, 0, _, .cons r _, e => by simp at e; subst e; exact ⟨_, rfl, r⟩
  | _, _, i + 1, d, .cons _ t, e => by
    obtain ⟨u, h1, h2⟩ := RpAll.getV (i := i) (v := d) t (by simpa using e)
    exact ⟨u, by simpa using h1, h2⟩
theorem RpAll.append : ∀ {vs ws : List V} {ds es : List D}, RpAll K H vs ds → RpAll K H ws es → RpAll K H (vs ++ ws) (ds ++ es)
  | _, _, _, _, .nil, s => s
  | _, _, _, _, .cons r t, s => .cons r (t.append s)
theorem RpAll.take : ∀ {vs : List V} {ds : List D} (n : Nat), RpAll K H vs ds → RpAll K H (vs.take n) (ds.take n)
  | _, _, 0, _ => .nil
  | _, _, _ + 1, .nil => .nil
  | _, _, n + 1, .cons r t => .cons r (t.take n)
theorem RpAll.drop : ∀ {vs : List V} {ds : List D} (n : Nat), RpAll K H vs ds → RpAll K H (vs.drop n) (ds.drop n)
  | _, _, 0, r => r
  | _, _, _ + 1, .nil => .nil
  | _, _, n + 1, .cons _ t => t.drop n
theorem RpAll.set {v : V} {d : D} (r : Rp K H v d) : ∀ {vs : List V} {ds : List D} (i : Nat), RpAll K H vs ds → RpAll K H (vs.set i v) (ds.set i d)
  | _, _, _, .nil => .nil
  | _, _, 0, .cons _ t => .cons r t
  | _, _, i + 1, .cons q t => .cons q (RpAll.set r i t)
theorem RpAll.eraseIdx : ∀ {vs : List V} {ds : List D} (i : Nat), RpAll K H vs ds → RpAll K H (vs.eraseIdx i) (ds.eraseIdx i)
  | _, _, _, .nil => .nil
  | _, _, 0, .cons _ t => t
  | _, _, i + 1, .cons q t => .cons q (RpAll.eraseIdx i t)
theorem RpAll.insertIdx {v : V} {d : D} (r : Rp K H v d) : ∀ {vs : List V} {ds : List D} (i : Nat), RpAll K H vs ds → RpAll K H (vs.insertIdx i v) (ds.insertIdx i d)
  | _, _, 0, .nil => .cons r .nil
  | _, _, _ + 1, .nil => .nil
  | _, _, 0, .cons q t => .cons r (.cons q t)
  | _, _, i + 1, .cons q t => by
    rw [List.insertIdx_succ_cons, List.insertIdx_succ_cons]
    exact .cons q (RpAll.insertIdx r i t)
theorem RpAll.rep {vs : List V} {ds : List D} (h : RpAll K H vs ds) : ∀ k : Nat, RpAll K H (List.replicate k vs).flatten (List.replicate k ds).flatten
  | 0 => .nil
  | k + 1 => by
    rw [List.replicate_succ, List.replicate_succ, List.flatten_cons, List.flatten_cons]
    exact h.append (RpAll.rep h k)
theorem Rp.int_inv {v : V} {i : Int} (h : Rp K H v (.int i)) : v = .int i := by cases h; rfl
theorem Rp.bl_inv {v : V} {b : Bool} (h : Rp K H v (.bool b)) : v = .bl b := by cases h; rfl
theorem Rp.non_inv {v : V} (h : Rp K H v .none) : v = .non := by cases h; rfl
theorem Rp.str_inv {v : V} {x : Str} (h : Rp K H v (.str x)) : v = .str x := by cases h; rfl
theorem Rp.tup_inv {v : V} {ds : List D} (h : Rp K H v (.tuple ds)) : ∃ a xs, v = .ref a ∧ SqT K H a xs ∧ RpAll K H xs ds := by
  cases h with
  | tup h r => exact ⟨_, _, rfl, h, r⟩
theorem Rp.lst_inv {v : V} {ds : List D} (h : Rp K H v (.list ds)) : ∃ a xs, v = .ref a ∧ H a = some (.lst xs) ∧ RpAll K H xs ds := by
  cases h with
  | lst h r => exact ⟨_, _, rfl, h, r⟩
theorem RpAll.ints : ∀ {vs : List V} {ns : List Int}, RpAll K H vs (ns.map .int) → vs = ns.map V.int
  | _, [], h => by cases h; rfl
  | _, n :: ns, h => by
    cases h with
    | cons h1 h2 => rw [h1.int_inv, RpAll.ints h2]; rfl
theorem RpAll.bls : ∀ {vs : List V} {ns : List Bool}, RpAll K H vs (ns.map .bool) → vs = ns.map V.bl
  | _, [], h => by cases h; rfl
  | _, n :: ns, h => by
    cases h with
    | cons h1 h2 => rw [h1.bl_inv, RpAll.bls h2]; rfl
theorem RpAll.of_ints : ∀ (ns : List Int), RpAll K H (ns.map V.int) (ns.map .int)
  | [] => .nil
  | n :: ns => .cons (.int n) (RpAll.of_ints ns)
end
/-- a value that is read: its container stands in H, its items are shared -/
inductive Bp (K : PySem.W.Frag) (Hs H : Hp) : V → D → Prop
  | sh {v : V} {d : D} : Rp K Hs v d → Bp K Hs H v d
  | lst {a : Addr} {xs : List V} {ds : List D} : H a = some (.lst xs) → RpAll K Hs xs ds → Bp K Hs H (.ref a) (.list ds)
section
variable {K : PySem.W.Frag} {Hs H : Hp}
theorem Bp.rp {v : V} {d : D} (e : Same Hs H) (h : Bp K Hs H v d) : Rp K H v d := by
  cases h with
  | sh h => exact h.mono e
  | lst h r => exact .lst h (r.mono e)
theorem Bp.int_inv {v : V} {i : Int} (h : Bp K Hs H v (.int i)) : v = .int i := by cases h with | sh h => exact h.int_inv
theorem Bp.bl_inv {v : V} {i : Bool} (h : Bp K Hs H v (.bool i)) : v = .bl i := by cases h with | sh h => exact h.bl_inv
theorem Bp.lst_inv {v : V} {ds : List D} (e : Same Hs H) (h : Bp K Hs H v (.list ds)) : ∃ a xs, v = .ref a ∧ H a = some (.lst xs) ∧ RpAll K Hs xs ds := by
  cases h with
  | sh h =>
    obtain ⟨a, xs, rfl, h1, h2⟩ := h.lst_inv
    exact ⟨a, xs, rfl, e _ _ h1, h2⟩
  | lst h r => exact ⟨_, _, rfl, h, r⟩
theorem Bp.tup_inv {v : V} {ds : List D} (h : Bp K Hs H v (.tuple ds)) : ∃ a xs, v = .ref a ∧ SqT K Hs a xs ∧ RpAll K Hs xs ds := by
  cases h with
  | sh h => exact h.tup_inv
theorem Bp.tup_rp {v : V} {ds : List D} (h : Bp K Hs H v (.tuple ds)) : Rp K Hs v (.tuple ds) := by
  cases h with
  | sh h => exact h
end
/-! ### the row that the law's helpers turn: its address, the script's address and ints -/
abbrev Rc := Option (Addr × Addr × List Int)
def Rc.ad (rc : Rc) : Option Addr := rc.map (·.1)
def rowV (sc : Addr) (r : Row) : List V := [.ref sc, .int r.2.1, .int r.2.2.1, .int r.2.2.2]
def RowAt (K : PySem.W.Frag) (rc : Rc) (H : Hp) (r : Row) : Prop := match rc with
  | none => True
  | some (a, sc, ns) => (H a = some (.lst (rowV sc r)) ∧ r.1 = ns) ∧ SqL K H sc (ns.map V.int)
/-- what an evaluation leaves: shared things grow, all else stands (but the row) -/
structure Ext (rc : Rc) (Hs H Hs' H' : Hp) : Prop where
  g : Same Hs Hs'
  s : Same Hs' H'
  k : ∀ b o, rc.ad ≠ some b → H b = some o → H' b = some o
  d : ∀ b, H b ≠ none → H' b ≠ none
  p : ∀ b, H b ≠ none → Hs b = none → Hs' b = none
section
variable {K : PySem.W.Frag} {rc : Rc} {Hs H Hs' H' Hs2 H2 : Hp}
theorem Ext.refl (e : Same Hs H) : Ext rc Hs H Hs H := ⟨Same.refl _, e, fun _ _ _ h => h, fun _ h => h, fun _ _ h => h⟩
theorem Ext.trans (a : Ext rc Hs H Hs' H') (b : Ext rc Hs' H' Hs2 H2) : Ext rc Hs H Hs2 H2 :=
  ⟨a.g.trans b.g, b.s, fun c o n h => b.k c o n (a.k c o n h), fun c h => b.d c (a.d c h), fun c h1 h2 => b.p c (a.d c h1) (a.p c h1 h2)⟩
theorem Ext.of_none (a : Ext none Hs H Hs' H') : Ext rc Hs H Hs' H' := ⟨a.g, a.s, fun b o _ h => a.k b o (by intro q; cases q) h, a.d, a.p⟩
theorem Ext.same_none (a : Ext none Hs H Hs' H') : Same H H' := fun b o h => a.k b o (by intro q; cases q) h
/-- a new object, shared -/
theorem Ext.new {p : Addr} {o : HO} (e : Same Hs H) (n : H p = none) : Ext rc Hs H (upd Hs p o) (upd H p o) := by
  have nn : ∀ b o', H b = some o' → b ≠ p := fun b o' h z => by rw [z, n] at h; cases h
  have ns : Hs p = none := by
    cases q : Hs p with
    | none => rfl
    | some u => rw [e p u q] at n; cases n
  refine ⟨fun b u h => ?_, fun b u h => ?_, fun b u _ h => by rw [upd_ne (nn b u h)]; exact h, fun b h => ?_, fun b h1 h2 => ?_⟩
  · rw [upd_ne (fun z => by rw [z, ns] at h; cases h)]; exact h
  · by_cases z : b = p
    · subst z; rw [upd_same] at h ⊢; exact h
    · rw [upd_ne z] at h ⊢; exact e b u h
  · by_cases z : b = p
    · subst z; rw [upd_same]; simp
    · rw [upd_ne z]; exact h
  · by_cases z : b = p
    · subst z; exact absurd n h1
    · rw [upd_ne z]; exact h2
/-- a new object, kept private -/
theorem Ext.newP {p : Addr} {o : HO} (e : Same Hs H) (n : H p = none) : Ext rc Hs H Hs (upd H p o) := by
  have nn : ∀ b o', H b = some o' → b ≠ p := fun b o' h z => by rw [z, n] at h; cases h
  refine ⟨Same.refl _, fun b u h => by rw [upd_ne (nn b u (e b u h))]; exact e b u h, fun b u _ h => by rw [upd_ne (nn b u h)]; exact h, fun b h => ?_, fun b _ h2 => h2⟩
  by_cases z : b = p
  · subst z; rw [upd_same]; simp
  · rw [upd_ne z]; exact h
theorem same_none {p : Addr} (e : Same Hs H) (n : H p = none) : Hs p = none := e.free n
theorem RowAt.keep (h : RowAt K rc H r) (k : ∀ b o, H b = some o → H' b = some o) : RowAt K rc H' r := by
  cases rc with
  | none => trivial
  | some x =>
    obtain ⟨a, sc, ns⟩ := x
    exact ⟨⟨k _ _ h.1.1, h.1.2⟩, Same.seq k h.2⟩
end
/-! ### the slots of a frame -/
inductive Sl where
  | no
  | s (d : D)
  | o (ds : List D)
  | b (d : D)
  | row
  | ob (a : Addr) (fs : List (Str × Bool × D))
structure Ev where
  row : Row
  sl : List Sl
def Ev.get (ρ : Ev) (i : Nat) : Sl := ρ.sl.getD i .no
def Ev.set (ρ : Ev) (i : Nat) (x : Sl) : Ev := ⟨ρ.row, ρ.sl.set i x⟩
def Ev.wr (ρ : Ev) (r : Row) : Ev := ⟨r, ρ.sl⟩
def SlOk (K : PySem.W.Frag) (rc : Rc) (H0 Hs H : Hp) (sv : Option (Option V)) : Sl → Prop
  | .no => True
  | .s d => ∃ v, sv = some (some v) ∧ Rp K Hs v d
  | .o ds => ∃ p vs, sv = some (some (.ref p)) ∧ H p = some (.lst vs) ∧ Hs p = none ∧ H0 p = none ∧ rc.ad ≠ some p ∧ RpAll K Hs vs ds
  | .b d => ∃ v, sv = some (some v) ∧ (∀ p, v = .ref p → rc.ad ≠ some p) ∧ Bp K Hs H0 v d
  | .row => ∃ a, rc.ad = some a ∧ sv = some (some (.ref a))
  | .ob a fs => ∃ C dx fvs, sv = some (some (.ref a)) ∧ rc.ad ≠ some a ∧ H0 a = some (.ins C dx fvs) ∧ Cls K C ∧ ∀ f k d, fs.lookup f = some (k, d) → ∃ v, fvs.lookup f = some v ∧ NoAttr K C f ∧ (∀ p, v = .ref p → rc.ad ≠ some p) ∧ Bp K Hs H0 v d ∧ (k = true → Rp K Hs v d)
def Sl.own : Sl → Prop
  | .o _ => True
  | _ => False
structure Rel (K : PySem.W.Frag) (rc : Rc) (Hs0 H0 : Hp) (σ : L2.St) (Hs H : Hp) (ρ : Ev) : Prop where
  ext : Ext rc Hs0 H0 Hs H
  s0 : Same Hs0 H0
  row : RowAt K rc H ρ.row
  rn : ∀ a, rc.ad = some a → H0 a ≠ none ∧ Hs0 a = none
  scr : ∀ a sc ns, rc = some (a, sc, ns) → SqL K H0 sc (ns.map V.int)
  len : σ.length = ρ.sl.length
  sl : ∀ i, SlOk K rc H0 Hs H σ[i]? (ρ.get i)
  dis : ∀ i j p, i ≠ j → (ρ.get i).own → (ρ.get j).own → σ[i]? = some (some (.ref p)) → σ[j]? ≠ some (some (.ref p))
section
variable {K : PySem.W.Frag} {rc : Rc} {Hs0 H0 Hs H Hs' H' : Hp} {σ : L2.St} {ρ : Ev}
theorem Rel.same (R : Rel K rc Hs0 H0 σ Hs H ρ) : Same Hs H := R.ext.s
/-- Bp over the entry heap, seen now -/
theorem Bp.now {v : V} {d : D} (h : Bp K Hs H0 v d) (hr : ∀ p, v = .ref p → rc.ad ≠ some p) (k : ∀ b o, rc.ad ≠ some b → H0 b = some o → H b = some o) : Bp K Hs H v d := by
  cases h with
  | sh h => exact .sh h
  | lst h r => exact .lst (k _ _ (hr _ rfl) h) r
theorem Bp.monoS {H1 : Hp} {v : V} {d : D} (e : Same Hs Hs') (h : Bp K Hs H1 v d) : Bp K Hs' H1 v d := by
  cases h with
  | sh h => exact .sh (h.mono e)
  | lst h r => exact .lst h (r.mono e)
theorem SlOk.ext {sv : Option (Option V)} {x : Sl} (h : SlOk K rc H0 Hs H sv x) (e : Ext rc Hs H Hs' H') : SlOk K rc H0 Hs' H' sv x := by
  cases x with
  | no => trivial
  | s d => obtain ⟨v, h1, h2⟩ := h; exact ⟨v, h1, h2.mono e.g⟩
  | o ds =>
    obtain ⟨p, vs, h1, h2, h3, h4, h5, h6⟩ := h
    exact ⟨p, vs, h1, e.k _ _ h5 h2, e.p _ (by rw [h2]; simp) h3, h4, h5, h6.mono e.g⟩
  | b d => obtain ⟨v, h1, h2, h3⟩ := h; exact ⟨v, h1, h2, h3.monoS e.g⟩
  | row => exact h
  | ob a fs =>
    obtain ⟨C, dx, fvs, h1, h2, h3, h4, h5⟩ := h
    refine ⟨C, dx, fvs, h1, h2, h3, h4, fun f k d hf => ?_⟩
    obtain ⟨v, g1, g2, g3, g4, g5⟩ := h5 f k d hf
    exact ⟨v, g1, g2, g3, g4.monoS e.g, fun z => (g5 z).mono e.g⟩
theorem Rel.ext' (R : Rel K rc Hs0 H0 σ Hs H ρ) (e : Ext rc Hs H Hs' H') {r : Row} (hr : RowAt K rc H' r) : Rel K rc Hs0 H0 σ Hs' H' (ρ.wr r) :=
  ⟨R.ext.trans e, R.s0, hr, R.rn, R.scr, R.len, fun i => (R.sl i).ext e, R.dis⟩
theorem Ev.get_set (ρ : Ev) (i j : Nat) (x : Sl) : (ρ.set i x).get j = if i = j ∧ i < ρ.sl.length then x else ρ.get j := by
  unfold Ev.set Ev.get
  simp only [List.getD_eq_getElem?_getD, List.getElem?_set]
  by_cases h : i = j
  · subst h
    by_cases h2 : i < ρ.sl.length
    · simp [h2]
    · simp [h2]
  · simp [h]
/-- a slot is set to what is shared -/
theorem Rel.set (R : Rel K rc Hs0 H0 σ Hs H ρ) {i : Nat} {v : V} {d : D} (h : Rp K Hs v d) : Rel K rc Hs0 H0 (σ.set i (some v)) Hs H (ρ.set i (.s d)) := by
  have hl : (ρ.set i (.s d)).sl.length = ρ.sl.length := by simp [Ev.set]
  refine ⟨R.ext, R.s0, R.row, R.rn, R.scr, by rw [hl, List.length_set]; exact R.len, fun j => ?_, fun j k p hjk hj hk => ?_⟩
  · rw [Ev.get_set]
    by_cases hij : i = j ∧ i < ρ.sl.length
    · rw [if_pos hij]
      obtain ⟨rfl, hi⟩ := hij
      rw [List.getElem?_set_self (by rw [R.len]; exact hi)]
      exact ⟨v, rfl, h⟩
    · rw [if_neg hij]
      by_cases e : i = j
      · subst e
        have hi : ¬ i < ρ.sl.length := fun z => hij ⟨rfl, z⟩
        have : ρ.get i = .no := by
          unfold Ev.get
          rw [List.getD_eq_getElem?_getD, List.getElem?_eq_none (by omega)]
          rfl
        rw [this]; trivial
      · rw [List.getElem?_set_ne e]; exact R.sl j
  · have key : ∀ j, ((ρ.set i (.s d)).get j).own → i ≠ j ∧ (ρ.get j).own := fun j h => by
      rw [Ev.get_set] at h
      by_cases hij : i = j ∧ i < ρ.sl.length
      · rw [if_pos hij] at h; exact h.elim
      · rw [if_neg hij] at h
        refine ⟨fun e => ?_, h⟩
        subst e
        have hi : ¬ i < ρ.sl.length := fun z => hij ⟨rfl, z⟩
        have : ρ.get i = .no := by
          unfold Ev.get
          rw [List.getD_eq_getElem?_getD, List.getElem?_eq_none (by omega)]
          rfl
        rw [this] at h; exact h
    obtain ⟨h1, h2⟩ := key j hj
    obtain ⟨h3, h4⟩ := key k hk
    rw [List.getElem?_set_ne h1, List.getElem?_set_ne h3]
    exact R.dis j k p hjk h2 h4
/-- a slot is set to a list of one's own -/
theorem Rel.setO (R : Rel K rc Hs0 H0 σ Hs H ρ) {i : Nat} {p : Addr} {vs : List V} {ds : List D} (hp : H p = some (.lst vs)) (hs : Hs p = none) (h0 : H0 p = none) (hr : RpAll K Hs vs ds)
    (nw : ∀ j, (ρ.get j).own → i ≠ j → σ[j]? ≠ some (some (.ref p))) : Rel K rc Hs0 H0 (σ.set i (some (.ref p))) Hs H (ρ.set i (.o ds)) := by
  have hl : (ρ.set i (.o ds)).sl.length = ρ.sl.length := by simp [Ev.set]
  have hrc : rc.ad ≠ some p := fun e => (R.rn p e).1 h0
  refine ⟨R.ext, R.s0, R.row, R.rn, R.scr, by rw [hl, List.length_set]; exact R.len, fun j => ?_, fun j k q hjk hj hk => ?_⟩
  · rw [Ev.get_set]
    by_cases hij : i = j ∧ i < ρ.sl.length
    · rw [if_pos hij]
      obtain ⟨rfl, hi⟩ := hij
      rw [List.getElem?_set_self (by rw [R.len]; exact hi)]
      exact ⟨p, vs, rfl, hp, hs, h0, hrc, hr⟩
    · rw [if_neg hij]
      by_cases e : i = j
      · subst e
        have hi : ¬ i < ρ.sl.length := fun z => hij ⟨rfl, z⟩
        have : ρ.get i = .no := by
          unfold Ev.get
          rw [List.getD_eq_getElem?_getD, List.getElem?_eq_none (by omega)]
          rfl
        rw [this]; trivial
      · rw [List.getElem?_set_ne e]; exact R.sl j
  · have out : ∀ j, ¬ j < ρ.sl.length → ρ.get j = .no := fun j hi => by
      unfold Ev.get
      rw [List.getD_eq_getElem?_getD, List.getElem?_eq_none (by omega)]
      rfl
    have key : ∀ j, ((ρ.set i (.o ds)).get j).own → (i = j ∧ i < ρ.sl.length) ∨ (i ≠ j ∧ (ρ.get j).own) := fun j h => by
      rw [Ev.get_set] at h
      by_cases hij : i = j ∧ i < ρ.sl.length
      · exact .inl hij
      · rw [if_neg hij] at h
        refine .inr ⟨fun e => ?_, h⟩
        subst e
        rw [out i fun z => hij ⟨rfl, z⟩] at h; exact h
    rcases key j hj with ⟨rfl, hi⟩ | ⟨h1, h2⟩
    · rcases key k hk with ⟨rfl, _⟩ | ⟨h3, h4⟩
      · exact absurd rfl hjk
      · rw [List.getElem?_set_self (by rw [R.len]; exact hi), List.getElem?_set_ne h3]
        intro e e2
        cases e
        exact nw k h4 h3 e2
    · rw [List.getElem?_set_ne h1]
      rcases key k hk with ⟨rfl, hi⟩ | ⟨h3, h4⟩
      · rw [List.getElem?_set_self (by rw [R.len]; exact hi)]
        intro e e2
        cases e2
        exact nw j h2 h1 e
      · rw [List.getElem?_set_ne h3]
        exact R.dis j k q hjk h2 h4
/-- a list of one's own is changed -/
theorem Rel.upd (R : Rel K rc Hs0 H0 σ Hs H ρ) {i : Nat} {p : Addr} {vs : List V} {ds es : List D} (hi : ρ.get i = .o ds) (hσ : σ[i]? = some (some (.ref p))) (hr : RpAll K Hs vs es) :
    Rel K rc Hs0 H0 σ Hs (L2.upd H p (.lst vs)) (ρ.set i (.o es)) := by
  have h := R.sl i
  rw [hi] at h
  obtain ⟨p', vs', e1, h2, h3, h4, h5, h6⟩ := h
  rw [hσ] at e1
  cases e1
  have hl : (ρ.set i (.o es)).sl.length = ρ.sl.length := by simp [Ev.set]
  have hin : i < ρ.sl.length := by
    rw [← R.len]
    exact (List.getElem?_eq_some_iff.mp hσ).1
  have nS : ∀ b o, Hs b = some o → b ≠ p := fun b o e z => by rw [z, h3] at e; cases e
  have n0 : ∀ b o, H0 b = some o → b ≠ p := fun b o e z => by rw [z, h4] at e; cases e
  have own : ∀ j, ((ρ.set i (.o es)).get j).own → (ρ.get j).own := fun j h => by
    rw [Ev.get_set] at h
    by_cases hij : i = j ∧ i < ρ.sl.length
    · rw [← hij.1, hi]; trivial
    · rw [if_neg hij] at h; exact h
  have hrow : RowAt K rc (L2.upd H p (.lst vs)) ρ.row := by
    cases hrc : rc with
    | none => trivial
    | some x =>
      obtain ⟨a, sc, ns⟩ := x
      have hR := R.row
      rw [hrc] at hR
      have ha : rc.ad = some a := by rw [hrc]; rfl
      have nap : a ≠ p := fun z => h5 (by rw [ha, z])
      refine ⟨⟨by rw [upd_ne nap]; exact hR.1.1, hR.1.2⟩, ?_⟩
      rcases R.scr a sc ns hrc with hz | hz
      · have z : sc ≠ p := by
          rcases hz with hz | ⟨o, hz⟩
          · exact n0 _ _ hz
          · exact n0 _ _ hz
        rcases hR.2 with hq | hq
        · rcases hq with hq | ⟨o, hq⟩
          · exact .inl (.inl (by rw [upd_ne z]; exact hq))
          · exact .inl (.inr ⟨o, by rw [upd_ne z]; exact hq⟩)
        · exact .inr hq
      · exact .inr hz
  refine ⟨⟨R.ext.g, fun b o e => by rw [upd_ne (nS b o e)]; exact R.ext.s b o e, fun b o n e => by rw [upd_ne (n0 b o e)]; exact R.ext.k b o n e, fun b e => ?_, R.ext.p⟩, R.s0, hrow, R.rn, R.scr, by rw [hl]; exact R.len, fun j => ?_, fun j k q hjk hj hk => R.dis j k q hjk (own j hj) (own k hk)⟩
  · by_cases z : b = p
    · subst z; rw [upd_same]; simp
    · rw [upd_ne z]; exact R.ext.d b e
  · rw [Ev.get_set]
    by_cases hij : i = j ∧ i < ρ.sl.length
    · rw [if_pos hij, ← hij.1]
      exact ⟨p, vs, hσ, upd_same, h3, h4, h5, hr⟩
    · rw [if_neg hij]
      have nij : i ≠ j := fun z => hij ⟨z, hin⟩
      have q := R.sl j
      cases hx : ρ.get j with
      | no => trivial
      | s d => rw [hx] at q; exact q
      | o dj =>
        rw [hx] at q
        obtain ⟨p2, v2, f1, f2, f3, f4, f5, f6⟩ := q
        have np : p2 ≠ p := fun z => by
          subst z
          exact R.dis i j p2 nij (by rw [hi]; trivial) (by rw [hx]; trivial) hσ f1
        exact ⟨p2, v2, f1, by rw [upd_ne np]; exact f2, f3, f4, f5, f6⟩
      | b d => rw [hx] at q; exact q
      | row => rw [hx] at q; exact q
      | ob a fs => rw [hx] at q; exact q
end
end DL

namespace DL
open PySem PySem.Spec PyProof.Rows L2
/-! ### what an evaluation gives -/
abbrev MM (β : Type) := Ev → Option (β × Row)
abbrev TX (α : Type) := L2.St → Hp → (α → Hp → Prop) → Prop
def mBind {α β : Type} (f : MM α) (k : α → MM β) : MM β := fun ρ => match f ρ with
  | some (a, r) => k a (ρ.wr r)
  | none => none
def mRet {α : Type} (a : α) : MM α := fun ρ => some (a, ρ.row)
def mO {α : Type} (o : Option α) : MM α := fun ρ => match o with
  | some a => some (a, ρ.row)
  | none => none
theorem mBind_some {α β : Type} {f : MM α} {k : α → MM β} {ρ : Ev} {b : β} {r : Row} (h : mBind f k ρ = some (b, r)) : ∃ a r1, f ρ = some (a, r1) ∧ k a (ρ.wr r1) = some (b, r) := by
  unfold mBind at h
  cases e : f ρ with
  | none => rw [e] at h; cases h
  | some p => obtain ⟨a, r1⟩ := p; rw [e] at h; exact ⟨a, r1, rfl, h⟩
theorem mO_some {α : Type} {o : Option α} {ρ : Ev} {a : α} {r : Row} (h : mO o ρ = some (a, r)) : o = some a ∧ r = ρ.row := by
  unfold mO at h
  cases o with
  | none => cases h
  | some x => cases h; exact ⟨rfl, rfl⟩
def Kp (rc : Rc) (H H2 : Hp) : Prop := ∀ b o, rc.ad ≠ some b → H b = some o → H2 b = some o
/-- a container that stands: while all but the row stands; m: while what stood at the entry stands -/
structure Bst (K : PySem.W.Frag) (rc : Rc) (m : Bool) (H0 Hs H : Hp) (v : V) (d : D) : Prop where
  b : Bp K Hs H v d
  st : ∀ Hs2 H2, Same Hs Hs2 → Same Hs2 H2 → Kp rc H H2 → Bp K Hs2 H2 v d
  st0 : m = true → ∀ Hs2 H2, Same Hs Hs2 → Same Hs2 H2 → Kp rc H0 H2 → Bp K Hs2 H2 v d
def Sem {α β : Type} (K : PySem.W.Frag) (rc : Rc) (P : Hp → Hp → Hp → α → β → Prop) (t : TX α) (f : MM β) : Prop :=
  ∀ Hs0 H0 σ Hs H ρ, Rel K rc Hs0 H0 σ Hs H ρ → ∀ b r, f ρ = some (b, r) → ∀ Q : α → Hp → Prop, (∀ a Hs' H', Ext rc Hs H Hs' H' → RowAt K rc H' r → P H0 Hs' H' a b → Q a H') → t σ H Q
abbrev PE_ (K : PySem.W.Frag) : Hp → Hp → Hp → V → D → Prop := fun _ Hs _ v d => Rp K Hs v d
abbrev PB_ (K : PySem.W.Frag) (rc : Rc) (m : Bool) : Hp → Hp → Hp → V → D → Prop := fun H0 Hs H v d => Bst K rc m H0 Hs H v d
abbrev PT_ : Hp → Hp → Hp → Bool → Bool → Prop := fun _ _ _ a b => a = b
abbrev PA_ (K : PySem.W.Frag) : Hp → Hp → Hp → List V → List D → Prop := fun _ Hs _ v d => RpAll K Hs v d
/-- a new list, not shared -/
abbrev PF_ (K : PySem.W.Frag) : Hp → Hp → Hp → V → List D → Prop := fun H0 Hs H v ds => ∃ p vs, v = .ref p ∧ H p = some (.lst vs) ∧ Hs p = none ∧ H0 p = none ∧ RpAll K Hs vs ds
structure DE (X : Cx) (rc : Rc) (e : Expr) (t : TE) (f : MM D) : Prop where
  pe : PE X e t
  se : Sem X.K rc (PE_ X.K) t f
structure DB (X : Cx) (rc : Rc) (m : Bool) (e : Expr) (t : TE) (f : MM D) : Prop where
  pe : PE X e t
  se : Sem X.K rc (PB_ X.K rc m) t f
structure DF (X : Cx) (rc : Rc) (e : Expr) (t : TE) (f : MM (List D)) : Prop where
  pe : PE X e t
  se : Sem X.K rc (fun _ Hs H v ds => ∃ p vs, v = .ref p ∧ H p = some (.lst vs) ∧ Hs p = none ∧ RpAll X.K Hs vs ds) t f
  new : ∀ Hs0 H0 σ Hs H ρ, Rel X.K rc Hs0 H0 σ Hs H ρ → ∀ b r, f ρ = some (b, r) → ∀ Q : V → Hp → Prop, (∀ a Hs' H', Ext rc Hs H Hs' H' → RowAt X.K rc H' r → (∃ p vs, a = .ref p ∧ H p = none ∧ H' p = some (.lst vs) ∧ Hs' p = none ∧ RpAll X.K Hs' vs b) → Q a H') → t σ H Q
structure DT (X : Cx) (rc : Rc) (e : Expr) (t : TT) (f : MM Bool) : Prop where
  pe : PT X e t
  se : Sem X.K rc PT_ t f
structure DA (X : Cx) (rc : Rc) (es : List Expr) (t : TA) (f : MM (List D)) : Prop where
  pe : PA X es t
  se : Sem X.K rc (PA_ X.K) t f
section
variable {K : PySem.W.Frag} {rc : Rc} {m : Bool} {H0 Hs H Hs' H' : Hp} {v : V} {d : D}
theorem Bst.ext (h : Bst K rc m H0 Hs H v d) (e : Ext rc Hs H Hs' H') : Bst K rc m H0 Hs' H' v d :=
  ⟨h.st _ _ e.g e.s e.k, fun Hs2 H2 g s k => h.st _ _ (e.g.trans g) s fun b o n q => k b o n (e.k b o n q), fun hm Hs2 H2 g s k => h.st0 hm _ _ (e.g.trans g) s k⟩
theorem Bst.of_rp (h : Rp K Hs v d) : Bst K rc m H0 Hs H v d := ⟨.sh h, fun _ _ g _ _ => .sh (h.mono g), fun _ _ _ g _ _ => .sh (h.mono g)⟩
theorem Bst.weak (h : Bst K rc true H0 Hs H v d) : Bst K rc m H0 Hs H v d := ⟨h.b, h.st, fun _ => h.st0 rfl⟩
end
section
variable {X : Cx} {rc : Rc} {m : Bool} {e a b c : Expr} {pos : Pos} {ta tb tc te : TE} {fa fb fc : MM D}
theorem DE.toB (h : DE X rc e te fa) : DB X rc m e te fa := ⟨h.pe, fun Hs0 H0 σ Hs H ρ R b r hf Q q => h.se Hs0 H0 σ Hs H ρ R b r hf Q fun a Hs' H' e w p => q a Hs' H' e w (.of_rp p)⟩
theorem DF.toE {f : MM (List D)} (h : DF X rc e te f) : DE X rc e te (mBind f fun ds => mRet (.list ds)) := ⟨h.pe, fun Hs0 H0 σ Hs H ρ R b r hf Q q => by
  obtain ⟨ds, r1, h1, h2⟩ := mBind_some hf
  cases h2
  refine h.new Hs0 H0 σ Hs H ρ R ds _ h1 Q fun v Hs' H' e w ⟨p, vs, ev, hn, hp, hs, hr⟩ => ?_
  subst ev
  refine q _ (upd Hs' p (.lst vs)) H' ⟨fun b o hb => ?_, fun b o hb => ?_, e.k, e.d, fun b hb hs' => ?_⟩ w ?_
  · have hb' := e.g b o hb
    rw [upd_ne (fun z => by rw [z, hs] at hb'; cases hb')]
    exact hb'
  · by_cases z : b = p
    · subst z; rw [upd_same] at hb; cases hb; exact hp
    · rw [upd_ne z] at hb; exact e.s b o hb
  · have z : b ≠ p := fun z => by rw [z, hn] at hb; exact hb rfl
    rw [upd_ne z]; exact e.p b hb hs'
  · refine .lst upd_same (hr.mono fun b o hb => ?_)
    rw [upd_ne (fun z => by rw [z, hs] at hb; cases hb)]
    exact hb⟩
/-! ### names, constants -/
def mVar (i : Nat) : MM D := fun ρ => match ρ.get i with
  | .s d => some (d, ρ.row)
  | _ => none
def mVarB (i : Nat) : MM D := fun ρ => match ρ.get i with
  | .s d => some (d, ρ.row)
  | .o ds => some (.list ds, ρ.row)
  | .b d => some (d, ρ.row)
  | _ => none
def mVarS (i : Nat) : MM D := fun ρ => match ρ.get i with
  | .s d => some (d, ρ.row)
  | .b d => some (d, ρ.row)
  | _ => none
theorem de_var (i : Nat) {x : Str} {pos : Pos} (hN : X.N[i]? = some x := by rfl) (hv : Vis X.env.scope x := by first | exact Or.inl rfl | exact Or.inr (Or.inl rfl) | exact Or.inr (Or.inr rfl)) (hd : (x == ("__debug__" : Str)) = false := by decide)
    (hcd : (x == ("__classdict__" : Str)) = false := by decide) : DE X rc (.Name x pos) (tVar i) (mVar i) := ⟨pe_var hN hv hd hcd, fun Hs0 H0 σ Hs H ρ R d r hf Q q => by
  unfold mVar at hf
  have h := R.sl i
  cases e : ρ.get i with
  | s d' =>
    rw [e] at hf h
    cases hf
    obtain ⟨v, h1, h2⟩ := h
    exact ⟨v, h1, q v Hs H (.refl R.same) R.row h2⟩
  | _ => rw [e] at hf; cases hf⟩
theorem own_bst {K : PySem.W.Frag} {H0 Hs H : Hp} {p : Addr} {vs : List V} {ds : List D} (h1 : H p = some (.lst vs)) (h2 : rc.ad ≠ some p) (h3 : RpAll K Hs vs ds) : Bst K rc false H0 Hs H (.ref p) (.list ds) :=
  ⟨.lst h1 h3, fun _ _ g _ k => .lst (k _ _ h2 h1) (h3.mono g), fun z => by cases z⟩
theorem bor_bst {K : PySem.W.Frag} {H0 Hs H : Hp} {v : V} {d : D} (hk : Kp rc H0 H) (h2 : ∀ p, v = .ref p → rc.ad ≠ some p) (h3 : Bp K Hs H0 v d) : Bst K rc m H0 Hs H v d :=
  ⟨h3.now h2 hk, fun _ _ g _ k => (h3.monoS g).now h2 fun b o n q => k b o n (hk b o n q), fun _ _ _ g _ k => (h3.monoS g).now h2 k⟩
theorem db_var (i : Nat) {x : Str} {pos : Pos} (hN : X.N[i]? = some x := by rfl) (hv : Vis X.env.scope x := by first | exact Or.inl rfl | exact Or.inr (Or.inl rfl) | exact Or.inr (Or.inr rfl)) (hd : (x == ("__debug__" : Str)) = false := by decide)
    (hcd : (x == ("__classdict__" : Str)) = false := by decide) : DB X rc false (.Name x pos) (tVar i) (mVarB i) := ⟨pe_var hN hv hd hcd, fun Hs0 H0 σ Hs H ρ R d r hf Q q => by
  unfold mVarB at hf
  have h := R.sl i
  cases e : ρ.get i with
  | s d' =>
    rw [e] at hf h
    cases hf
    obtain ⟨v, h1, h2⟩ := h
    exact ⟨v, h1, q v Hs H (.refl R.same) R.row (.of_rp h2)⟩
  | o ds =>
    rw [e] at hf h
    cases hf
    obtain ⟨p, vs, h1, h2, h3, h4, h5, h6⟩ := h
    exact ⟨_, h1, q _ Hs H (.refl R.same) R.row (own_bst h2 h5 h6)⟩
  | b d' =>
    rw [e] at hf h
    cases hf
    obtain ⟨v, h1, h2, h3⟩ := h
    exact ⟨v, h1, q v Hs H (.refl R.same) R.row (bor_bst R.ext.k h2 h3)⟩
  | _ => rw [e] at hf; cases hf⟩
theorem db_varS (i : Nat) {x : Str} {pos : Pos} (hN : X.N[i]? = some x := by rfl) (hv : Vis X.env.scope x := by first | exact Or.inl rfl | exact Or.inr (Or.inl rfl) | exact Or.inr (Or.inr rfl)) (hd : (x == ("__debug__" : Str)) = false := by decide)
    (hcd : (x == ("__classdict__" : Str)) = false := by decide) : DB X rc true (.Name x pos) (tVar i) (mVarS i) := ⟨pe_var hN hv hd hcd, fun Hs0 H0 σ Hs H ρ R d r hf Q q => by
  unfold mVarS at hf
  have h := R.sl i
  cases e : ρ.get i with
  | s d' =>
    rw [e] at hf h
    cases hf
    obtain ⟨v, h1, h2⟩ := h
    exact ⟨v, h1, q v Hs H (.refl R.same) R.row (.of_rp h2)⟩
  | b d' =>
    rw [e] at hf h
    cases hf
    obtain ⟨v, h1, h2, h3⟩ := h
    exact ⟨v, h1, q v Hs H (.refl R.same) R.row (bor_bst R.ext.k h2 h3)⟩
  | _ => rw [e] at hf; cases hf⟩
theorem sem_c {K : PySem.W.Frag} {v : V} {d : D} (h : ∀ H, Rp K H v d) : Sem K rc (PE_ K) (tC v) (mRet d) := fun Hs0 H0 σ Hs H ρ R d' r hf Q q => by
  cases hf
  exact q v Hs H (.refl R.same) R.row (h Hs)
theorem de_int {i j pos} : DE X rc (.Constant (.int i) j pos) (tC (.int i)) (mRet (.int i)) := ⟨pe_int, sem_c fun _ => .int i⟩
theorem de_bl {i j pos} : DE X rc (.Constant (.bool i) j pos) (tC (.bl i)) (mRet (.bool i)) := ⟨pe_bl, sem_c fun _ => .bl i⟩
theorem de_non {j pos} : DE X rc (.Constant .none j pos) (tC .non) (mRet .none) := ⟨pe_non, sem_c fun _ => .non⟩
theorem de_str {x j pos} : DE X rc (.Constant (.str x) j pos) (tC (.str x)) (mRet (.str x)) := ⟨pe_str, sem_c fun _ => .str x⟩
/-- a module's constant -/
structure Glb (K : PySem.W.Frag) (mg : Str → Option Value) (x : Str) (v : V) (d : D) : Prop where
  ex : ∃ u, mg x = some u ∧ RelV v u
  rp : ∀ H, Rp K H v d
theorem de_glob {x : Str} {v : V} {d : D} {pos : Pos} (g : Glb X.K X.mg x v d) (hg : Gl X x := by rfl) (hd : (x == ("__debug__" : Str)) = false := by decide) : DE X rc (.Name x pos) (tC v) (mRet d) := by
  obtain ⟨u, h1, h2⟩ := g.ex
  exact ⟨pe_glob hg h1 h2 hd, sem_c g.rp⟩
/-! ### operators -/
/-- what an operator does with two values that are read -/
def OpS (K : PySem.W.Frag) (rc : Rc) (r : R2) (op : D → D → Option D) : Prop := ∀ Hs H x y a b d, Same Hs H → Bp K Hs H x a → Bp K Hs H y b → op a b = some d →
  ∀ Q : VK, (∀ v Hs' H', Ext rc Hs H Hs' H' → (∀ w, RowAt K rc H w → RowAt K rc H' w) → Rp K Hs' v d → Q v H') → r x y H Q
def mOp (op : D → D → Option D) (fa fb : MM D) : MM D := mBind fa fun a => mBind fb fun b => mO (op a b)
theorem sem_op {K : PySem.W.Frag} {m m' : Bool} {r : R2} {op : D → D → Option D} (ho : OpS K rc r op) (ha : Sem K rc (PB_ K rc m) ta fa) (hb : Sem K rc (PB_ K rc m') tb fb) : Sem K rc (PE_ K) (tOp r ta tb) (mOp op fa fb) := fun Hs0 H0 σ Hs H ρ R d w hf Q q => by
  obtain ⟨a, r1, h1, h2⟩ := mBind_some hf
  obtain ⟨b, r2, h3, h4⟩ := mBind_some h2
  obtain ⟨h5, rfl⟩ := mO_some h4
  refine ha Hs0 H0 σ Hs H ρ R a r1 h1 _ fun x Hs1 H1 e1 w1 p1 => ?_
  refine hb Hs0 H0 σ Hs1 H1 (ρ.wr r1) (R.ext' e1 w1) b _ h3 _ fun y Hs2 H2 e2 w2 p2 => ?_
  refine ho Hs2 H2 x y a b d e2.s (p1.ext e2).b p2.b h5 Q fun v Hs' H' e3 w3 p3 => ?_
  exact q v Hs' H' ((e1.trans e2).trans e3) (w3 _ w2) p3
theorem de_op {op : Operator} {r : R2} {o : D → D → Option D} {m m' : Bool} (hr : OpR X (binaryOp op) r) (ho : OpS X.K rc r o) (ha : DB X rc m a ta fa) (hb : DB X rc m' b tb fb) : DE X rc (.BinOp a op b pos) (tOp r ta tb) (mOp o fa fb) := ⟨pe_op hr ha.pe hb.pe, sem_op ho ha.se hb.se⟩
theorem de_cmp {op : CmpOp} {r : R2} {o : D → D → Option D} {m m' : Bool} (hr : OpR X (compareOp op) r) (ho : OpS X.K rc r o) (ha : DB X rc m a ta fa) (hb : DB X rc m' b tb fb) (hm : behindInMarks op b = false := by exact nomark _) : DE X rc (.Compare a [op] [b] pos) (tOp r ta tb) (mOp o fa fb) := ⟨pe_cmpR hr ha.pe hb.pe hm, sem_op ho ha.se hb.se⟩
/-- a value that is True or False, as a test -/
def mTest (f : MM D) : MM Bool := mBind f fun d => mO (match d with
  | .bool b => some b
  | _ => none)
theorem mTest_some {f : MM D} {ρ : Ev} {b : Bool} {r : Row} (h : mTest f ρ = some (b, r)) : f ρ = some (.bool b, r) := by
  obtain ⟨d, r1, h1, h2⟩ := mBind_some h
  cases d with
  | bool k => obtain ⟨h3, rfl⟩ := mO_some h2; cases h3; exact h1
  | _ => obtain ⟨h3, _⟩ := mO_some h2; cases h3
theorem sem_test {K : PySem.W.Frag} (ha : Sem K rc (PE_ K) ta fa) : Sem K rc PT_ (tTest ta) (mTest fa) := fun Hs0 H0 σ Hs H ρ R b r hf Q q =>
  ha Hs0 H0 σ Hs H ρ R _ r (mTest_some hf) _ fun v Hs' H' e w p => ⟨b, p.bl_inv, q b Hs' H' e w rfl⟩
theorem dt_cmp {op : CmpOp} {r : R2} {o : D → D → Option D} {m m' : Bool} (hr : OpR X (compareOp op) r) (ho : OpS X.K rc r o) (ha : DB X rc m a ta fa) (hb : DB X rc m' b tb fb) (hm : behindInMarks op b = false := by exact nomark _) :
    DT X rc (.Compare a [op] [b] pos) (tTest (tOp r ta tb)) (mTest (mOp o fa fb)) := ⟨pt_cmpR hr ha.pe hb.pe hm, sem_test (sem_op ho ha.se hb.se)⟩
theorem dt_val (ha : DE X rc a ta fa) (he : ∀ whole, isTrue a X.env whole = (do let v ← whole; standAt a.pos; holding [v] (truthy v)) := by intro _; rfl) : DT X rc a (tB ta) (mTest fa) := ⟨pt_val ha.pe he, sem_test ha.se⟩
/-- a op1 b op2 c -/
def mChain (o o' : D → D → Option D) (fa fb fc : MM D) : MM D := mBind fa fun a => mBind fb fun b => mBind (mO (o a b)) fun k => match k with
  | .bool true => mBind fc fun c => mO (o' b c)
  | .bool false => mRet (.bool false)
  | _ => fun _ => none
theorem sem_chain {K : PySem.W.Frag} {m m' m2 : Bool} {r r' : R2} {o o' : D → D → Option D} (ho : OpS K rc r o) (ho' : OpS K rc r' o') (ha : Sem K rc (PB_ K rc m) ta fa) (hb : Sem K rc (PB_ K rc m') tb fb) (hc : Sem K rc (PB_ K rc m2) tc fc) : Sem K rc (PE_ K) (tChain r r' ta tb tc) (mChain o o' fa fb fc) := fun Hs0 H0 σ Hs H ρ R d w hf Q q => by
  obtain ⟨a, r1, h1, h2⟩ := mBind_some hf
  obtain ⟨b, r2, h3, h4⟩ := mBind_some h2
  obtain ⟨k, r3, h5, h6⟩ := mBind_some h4
  obtain ⟨h7, rfl⟩ := mO_some h5
  refine ha Hs0 H0 σ Hs H ρ R a r1 h1 _ fun x Hs1 H1 e1 w1 p1 => ?_
  refine hb Hs0 H0 σ Hs1 H1 (ρ.wr r1) (R.ext' e1 w1) b _ h3 _ fun y Hs2 H2 e2 w2 p2 => ?_
  refine ho Hs2 H2 x y a b k e2.s (p1.ext e2).b p2.b h7 _ fun v Hs3 H3 e3 w3 p3 => ?_
  have R3 := R.ext' ((e1.trans e2).trans e3) (w3 _ w2)
  cases k with
  | bool k =>
    refine ⟨k, p3.bl_inv, ?_⟩
    cases k with
    | true =>
      rw [if_pos rfl]
      obtain ⟨c, r4, h8, h9⟩ := mBind_some h6
      obtain ⟨h10, rfl⟩ := mO_some h9
      refine hc Hs0 H0 σ Hs3 H3 (ρ.wr _) R3 c _ h8 _ fun z Hs4 H4 e4 w4 p4 => ?_
      refine ho' Hs4 H4 y z b c d e4.s ((p2.ext e3).ext e4).b p4.b h10 Q fun v' Hs5 H5 e5 w5 p5 => ?_
      exact q v' Hs5 H5 ((((e1.trans e2).trans e3).trans e4).trans e5) (w5 _ w4) p5
    | false =>
      rw [if_neg Bool.false_ne_true]
      cases h6
      exact q _ Hs3 H3 ((e1.trans e2).trans e3) (w3 _ w2) (.bl false)
  | _ => cases h6
theorem de_chain {op op' : CmpOp} {r r' : R2} {o o' : D → D → Option D} {m m' m2 : Bool} (hr : OpR X (compareOp op) r) (ho : OpS X.K rc r o) (hr' : OpR X (compareOp op') r') (ho' : OpS X.K rc r' o') (ha : DB X rc m a ta fa) (hb : DB X rc m' b tb fb) (hc : DB X rc m2 c tc fc)
    (hm : lastMarks [op, op'] [b, c] = false := by with_unfolding_all rfl) : DE X rc (.Compare a [op, op'] [b, c] pos) (tChain r r' ta tb tc) (mChain o o' fa fb fc) := ⟨pe_chain hr hr' ha.pe hb.pe hc.pe hm, sem_chain ho ho' ha.se hb.se hc.se⟩
theorem dt_chain {op op' : CmpOp} {r r' : R2} {o o' : D → D → Option D} {m m' m2 : Bool} (hr : OpR X (compareOp op) r) (ho : OpS X.K rc r o) (hr' : OpR X (compareOp op') r') (ho' : OpS X.K rc r' o') (ha : DB X rc m a ta fa) (hb : DB X rc m' b tb fb) (hc : DB X rc m2 c tc fc)
    (hm : lastMarks [op, op'] [b, c] = false := by with_unfolding_all rfl) : DT X rc (.Compare a [op, op'] [b, c] pos) (tTest (tChain r r' ta tb tc)) (mTest (mChain o o' fa fb fc)) := ⟨pt_chain hr hr' ha.pe hb.pe hc.pe hm, sem_test (sem_chain ho ho' ha.se hb.se hc.se)⟩
/-! ### the operators' meanings -/
def dAdd : D → D → Option D
  | .int i, .int j => some (.int (i + j))
  | .tuple xs, .tuple ys => if xs.length + ys.length ≤ 1000000 then some (.tuple (xs ++ ys)) else none
  | _, _ => none
def dSub : D → D → Option D
  | .int i, .int j => some (.int (i - j))
  | _, _ => none
def mulOk (i j : Int) : Bool := decide (i.natAbs.log2 + j.natAbs.log2 < 134000000)
def dMul : D → D → Option D
  | .int i, .int j => if mulOk i j = true then some (.int (i * j)) else none
  | _, _ => none
def dDiv : D → D → Option D
  | .int i, .int j => if j = 0 then none else some (.int (i.fdiv j))
  | _, _ => none
def dMod : D → D → Option D
  | .int i, .int j => if j = 0 then none else some (.int (i.fmod j))
  | _, _ => none
def dPow : D → D → Option D
  | .int i, .int j => if 0 ≤ j ∧ j ≤ 1000 ∧ i.natAbs < 2 ^ 64 then some (.int (i ^ j.toNat)) else none
  | _, _ => none
def dLt : D → D → Option D
  | .int i, .int j => some (.bool (decide (i < j)))
  | _, _ => none
def dLe : D → D → Option D
  | .int i, .int j => some (.bool (decide (i ≤ j)))
  | _, _ => none
def dGt : D → D → Option D
  | .int i, .int j => some (.bool (decide (j < i)))
  | _, _ => none
def dGe : D → D → Option D
  | .int i, .int j => some (.bool (decide (j ≤ i)))
  | _, _ => none
def dEq (a b : D) : Option D := if (SeqAt.shaped a && SeqAt.shaped b) = true then some (.bool (PyData.eqv a b)) else none
def dNe (a b : D) : Option D := if (SeqAt.shaped a && SeqAt.shaped b) = true then some (.bool (!PyData.eqv a b)) else none
theorem mulOk_ok {i j : Int} (h : mulOk i j = true) : IntMulOk i j := by
  have b : ∀ x : Int, Builtin.Int.intBits x ≤ x.natAbs.log2 + 1 := fun x => by
    unfold Builtin.Int.intBits
    split <;> omega
  have h1 := b i
  have h2 := b j
  have h3 : i.natAbs.log2 + j.natAbs.log2 < 134000000 := of_decide_eq_true h
  have e : bitsLine = 134217728 := by decide
  unfold IntMulOk
  intro z
  rw [Bool.and_eq_true] at z
  have z2 := z.2
  unfold Builtin.Int.intTooBig at z2
  have z3 := of_decide_eq_true z2
  rw [e] at z3
  omega
theorem op_mulM : OpR X (binaryOp .Mult) (rI IntMulOk fun i j => .int (i * j)) := opI fun _ _ _ _ _ _ _ hc q => mul_int q hc
def PylongAt (X : Cx) : Prop := ∀ pins σ H s, Inv X pins σ H s → PySem.PylongRoom (model X.prog X.w) X.A s
theorem op_divP (hp : PylongAt X) : OpR X (binaryOp .FloorDiv) (rI (fun _ j => j ≠ 0) fun i j => .int (i.fdiv j)) := by
  intro pins s σ H x y v u Q I rx ry h
  obtain ⟨i, j, rfl, rfl, hc, q⟩ := h
  obtain ⟨t, rfl⟩ := rx
  obtain ⟨t', rfl⟩ := ry
  exact floordiv_int hc ⟨.int _, H, I.tok _, ⟨_, rfl⟩, q⟩ (.inr (hp pins σ H s I))
section
variable {K : PySem.W.Frag}
theorem ops_rI {C : Int → Int → Prop} {g : Int → Int → V} {op : D → D → Option D} (h : ∀ a b d, op a b = some d → ∃ i j, a = .int i ∧ b = .int j ∧ C i j ∧ ∀ H, Rp K H (g i j) d) : OpS K rc (rI C g) op := fun Hs H x y a b d e hx hy ho Q q => by
  obtain ⟨i, j, rfl, rfl, hc, hr⟩ := h a b d ho
  exact ⟨i, j, hx.int_inv, hy.int_inv, hc, q _ Hs H (.refl e) (fun _ w => w) (hr Hs)⟩
theorem ops_rI0 {g : Int → Int → V} {op : D → D → Option D} (h : ∀ a b d, op a b = some d → ∃ i j, a = .int i ∧ b = .int j ∧ ∀ H, Rp K H (g i j) d) : OpS K rc (rI0 g) op := fun Hs H x y a b d e hx hy ho Q q => by
  obtain ⟨i, j, rfl, rfl, hr⟩ := h a b d ho
  exact ⟨i, j, hx.int_inv, hy.int_inv, q _ Hs H (.refl e) (fun _ w => w) (hr Hs)⟩
def dAddI : D → D → Option D
  | .int i, .int j => some (.int (i + j))
  | _, _ => none
theorem s_add : OpS K rc (rI0 fun i j => .int (i + j)) dAddI := ops_rI0 fun a b d h => by
  cases a <;> cases b <;> cases h
  exact ⟨_, _, rfl, rfl, fun _ => .int _⟩
theorem s_sub : OpS K rc (rI0 fun i j => .int (i - j)) dSub := ops_rI0 fun a b d h => by
  cases a <;> cases b <;> cases h
  exact ⟨_, _, rfl, rfl, fun _ => .int _⟩
theorem s_mul : OpS K rc (rI IntMulOk fun i j => .int (i * j)) dMul := ops_rI fun a b d h => by
  cases a <;> cases b <;> try (cases h)
  rename_i i j
  simp only [dMul] at h
  by_cases hm : mulOk i j = true
  · rw [if_pos hm] at h; cases h; exact ⟨_, _, rfl, rfl, mulOk_ok hm, fun _ => .int _⟩
  · rw [if_neg hm] at h; cases h
theorem s_div : OpS K rc (rI (fun _ j => j ≠ 0) fun i j => .int (i.fdiv j)) dDiv := ops_rI fun a b d h => by
  cases a <;> cases b <;> try (cases h)
  rename_i i j
  simp only [dDiv] at h
  by_cases hm : j = 0
  · rw [if_pos hm] at h; cases h
  · rw [if_neg hm] at h; cases h; exact ⟨_, _, rfl, rfl, hm, fun _ => .int _⟩
theorem s_mod : OpS K rc (rI (fun _ j => j ≠ 0) fun i j => .int (i.fmod j)) dMod := ops_rI fun a b d h => by
  cases a <;> cases b <;> try (cases h)
  rename_i i j
  simp only [dMod] at h
  by_cases hm : j = 0
  · rw [if_pos hm] at h; cases h
  · rw [if_neg hm] at h; cases h; exact ⟨_, _, rfl, rfl, hm, fun _ => .int _⟩
theorem s_lt : OpS K rc (rI0 fun i j => .bl (decide (i < j))) dLt := ops_rI0 fun a b d h => by
  cases a <;> cases b <;> cases h
  exact ⟨_, _, rfl, rfl, fun _ => .bl _⟩
theorem s_le : OpS K rc (rI0 fun i j => .bl (decide (i ≤ j))) dLe := ops_rI0 fun a b d h => by
  cases a <;> cases b <;> cases h
  exact ⟨_, _, rfl, rfl, fun _ => .bl _⟩
theorem s_gt : OpS K rc (rI0 fun i j => .bl (decide (j < i))) dGt := ops_rI0 fun a b d h => by
  cases a <;> cases b <;> cases h
  exact ⟨_, _, rfl, rfl, fun _ => .bl _⟩
theorem s_ge : OpS K rc (rI0 fun i j => .bl (decide (j ≤ i))) dGe := ops_rI0 fun a b d h => by
  cases a <;> cases b <;> cases h
  exact ⟨_, _, rfl, rfl, fun _ => .bl _⟩
theorem s_eq : OpS K rc (rEqD K) dEq := fun Hs H x y a b d e hx hy ho Q q => by
  unfold dEq at ho
  by_cases hs : (SeqAt.shaped a && SeqAt.shaped b) = true
  · rw [if_pos hs] at ho
    cases ho
    obtain ⟨h1, h2⟩ := Bool.and_eq_true_iff.mp hs
    exact ⟨a, b, (hx.rp e).dp, (hy.rp e).dp, h1, h2, q _ Hs H (.refl e) (fun _ w => w) (.bl _)⟩
  · rw [if_neg hs] at ho; cases ho
theorem s_ne : OpS K rc (rNeD K) dNe := fun Hs H x y a b d e hx hy ho Q q => by
  unfold dNe at ho
  by_cases hs : (SeqAt.shaped a && SeqAt.shaped b) = true
  · rw [if_pos hs] at ho
    cases ho
    obtain ⟨h1, h2⟩ := Bool.and_eq_true_iff.mp hs
    exact ⟨a, b, (hx.rp e).dp, (hy.rp e).dp, h1, h2, q _ Hs H (.refl e) (fun _ w => w) (.bl _)⟩
  · rw [if_neg hs] at ho; cases ho
end
end
end DL

namespace DL
open PySem PySem.Spec PyProof.Rows L2
section
variable {X : Cx} {rc : Rc} {m m' : Bool} {e a b c : Expr} {pos : Pos} {ta tb tc te : TE} {fa fb fc : MM D} {es : List Expr} {t : TA} {fl : MM (List D)}
/-! ### displays -/
def dItems : D → Option (List D)
  | .list ds => some ds
  | .tuple ds => some ds
  | _ => none
theorem big_line {n : Nat} (h : n ≤ 1000000) : n ≤ sizeLine := by rw [sizeLine_eq]; omega
theorem big_lt {n : Nat} (h : n < 1000000) : n < sizeLine := by rw [sizeLine_eq]; omega
def mCons (fa : MM D) (fl : MM (List D)) : MM (List D) := mBind fa fun a => mBind fl fun l => mRet (a :: l)
def mStar (fa : MM D) (fl : MM (List D)) : MM (List D) := mBind fa fun a => mBind (mO (dItems a)) fun l1 => mBind fl fun l => mRet (l1 ++ l)
theorem da_nil : DA X rc [] tNil (mRet []) := ⟨pa_nil, fun Hs0 H0 σ Hs H ρ R d r hf Q q => by
  cases hf
  exact q [] Hs H (.refl R.same) R.row .nil⟩
theorem da_cons (ha : DE X rc e te fa) (hl : DA X rc es t fl) (hs : starEach (e :: es) X.env = (false, eval e X.env) :: starEach es X.env := by rfl) : DA X rc (e :: es) (tCons te t) (mCons fa fl) := ⟨pa_cons ha.pe hl.pe hs, fun Hs0 H0 σ Hs H ρ R d w hf Q q => by
  obtain ⟨a, r1, h1, h2⟩ := mBind_some hf
  obtain ⟨l, r2, h3, h4⟩ := mBind_some h2
  cases h4
  refine ha.se Hs0 H0 σ Hs H ρ R a r1 h1 _ fun x Hs1 H1 e1 w1 p1 => ?_
  refine hl.se Hs0 H0 σ Hs1 H1 (ρ.wr r1) (R.ext' e1 w1) l _ h3 _ fun y Hs2 H2 e2 w2 p2 => ?_
  exact q _ Hs2 H2 (e1.trans e2) w2 (.cons (p1.mono e2.g) p2)⟩
theorem da_star {p : Pos} (ha : DB X rc m e te fa) (hl : DA X rc es t fl) (hs : starEach (.Starred e p :: es) X.env = (true, eval e X.env) :: starEach es X.env := by rfl) : DA X rc (.Starred e p :: es) (StX.tStar X.K te t) (mStar fa fl) := ⟨StX.pa_star ha.pe hl.pe hs, fun Hs0 H0 σ Hs H ρ R d w hf Q q => by
  obtain ⟨a, r1, h1, h2⟩ := mBind_some hf
  obtain ⟨l1, r2, h3, h4⟩ := mBind_some h2
  obtain ⟨h5, rfl⟩ := mO_some h3
  obtain ⟨l, r3, h6, h7⟩ := mBind_some h4
  cases h7
  refine ha.se Hs0 H0 σ Hs H ρ R a _ h1 _ fun x Hs1 H1 e1 w1 p1 => ?_
  have key : ∃ p xs, x = V.ref p ∧ (SqT X.K H1 p xs ∨ SqL X.K H1 p xs) ∧ RpAll X.K Hs1 xs l1 := by
    cases a with
    | list ds =>
      cases h5
      obtain ⟨p, xs, ev, h8, h9⟩ := p1.b.lst_inv e1.s
      exact ⟨p, xs, ev, .inr (SqL.of h8), h9⟩
    | tuple ds =>
      cases h5
      obtain ⟨p, xs, ev, h8, h9⟩ := p1.b.tup_inv
      exact ⟨p, xs, ev, .inl (seqT_same e1.s h8), h9⟩
    | _ => cases h5
  obtain ⟨p, xs, ev, h8, h9⟩ := key
  refine ⟨p, xs, ev, h8, ?_⟩
  refine hl.se Hs0 H0 σ Hs1 H1 (ρ.wr _) (R.ext' e1 w1) l _ h6 _ fun y Hs2 H2 e2 w2 p2 => ?_
  exact q _ Hs2 H2 (e1.trans e2) w2 ((h9.mono e2.g).append p2)⟩
def dTup (ds : List D) : Option D := if ds.length ≤ 1000000 then some (.tuple ds) else none
def dLst (ds : List D) : Option (List D) := if ds.length ≤ 1000000 then some ds else none
theorem row_new {K : PySem.W.Frag} {H : Hp} {p : Addr} {o : HO} {w : Row} (n : H p = none) (h : RowAt K rc H w) : RowAt K rc (upd H p o) w := h.keep fun b u q => by
  rw [upd_ne (fun z => by rw [z, n] at q; cases q)]; exact q
theorem RpAll.new {K : PySem.W.Frag} {Hs : Hp} {p : Addr} {o : HO} {vs : List V} {ds : List D} (n : Hs p = none) (h : RpAll K Hs vs ds) : RpAll K (upd Hs p o) vs ds := h.mono fun b u q => by
  rw [upd_ne (fun z => by rw [z, n] at q; cases q)]; exact q
def mTup (fl : MM (List D)) : MM D := mBind fl fun l => mO (dTup l)
theorem de_tup {k : Nat} (h : DA X rc es t fl) : DE X rc (.Tuple es k pos) (tTup t) (mTup fl) := ⟨pe_tup h.pe, fun Hs0 H0 σ Hs H ρ R d w hf Q q => by
  obtain ⟨l, r1, h1, h2⟩ := mBind_some hf
  obtain ⟨h3, rfl⟩ := mO_some h2
  unfold dTup at h3
  by_cases hl : l.length ≤ 1000000
  · rw [if_pos hl] at h3
    cases h3
    refine h.se Hs0 H0 σ Hs H ρ R l _ h1 _ fun xs Hs1 H1 e1 w1 p1 => ?_
    refine ⟨by rw [p1.length]; exact big_line hl, fun p hp => ?_⟩
    have hs := same_none e1.s hp
    exact q _ _ _ (e1.trans (.new e1.s hp)) (row_new hp w1) (.tup (.inl (.inl upd_same)) (p1.new hs))
  · rw [if_neg hl] at h3; cases h3⟩
def mLst (fl : MM (List D)) : MM (List D) := mBind fl fun l => mO (dLst l)
theorem df_of {te : TE} {f : MM (List D)} (hp : PE X e te) (h : ∀ Hs0 H0 σ Hs H ρ, Rel X.K rc Hs0 H0 σ Hs H ρ → ∀ b r, f ρ = some (b, r) → ∀ Q : V → Hp → Prop, (∀ a Hs' H', Ext rc Hs H Hs' H' → RowAt X.K rc H' r → (∃ p vs, a = .ref p ∧ H p = none ∧ H' p = some (.lst vs) ∧ Hs' p = none ∧ RpAll X.K Hs' vs b) → Q a H') → te σ H Q) : DF X rc e te f :=
  ⟨hp, fun Hs0 H0 σ Hs H ρ R b r hf Q q => h Hs0 H0 σ Hs H ρ R b r hf Q fun a Hs' H' e w ⟨p, vs, h1, _, h2, h3, h4⟩ => q a Hs' H' e w ⟨p, vs, h1, h2, h3, h4⟩, h⟩
theorem df_lst (h : DA X rc es t fl) : DF X rc (.List es pos) (tLst t) (mLst fl) := df_of (pe_lst h.pe) fun Hs0 H0 σ Hs H ρ R d w hf Q q => by
  obtain ⟨l, r1, h1, h2⟩ := mBind_some hf
  obtain ⟨h3, rfl⟩ := mO_some h2
  unfold dLst at h3
  by_cases hl : l.length ≤ 1000000
  · rw [if_pos hl] at h3
    cases h3
    refine h.se Hs0 H0 σ Hs H ρ R _ _ h1 _ fun xs Hs1 H1 e1 w1 p1 => ?_
    refine ⟨by rw [p1.length]; exact big_line hl, fun p hp => ?_⟩
    have hs := same_none e1.s hp
    have hn : H p = none := by
      cases z : H p with
      | none => rfl
      | some u => exact absurd hp (e1.d p (by rw [z]; simp))
    exact q _ Hs1 _ (e1.trans (.newP e1.s hp)) (row_new hp w1) ⟨p, xs, rfl, hn, upd_same, hs, p1⟩
  · rw [if_neg hl] at h3; cases h3
/-! ### list operators: a new list -/
def OpF (K : PySem.W.Frag) (rc : Rc) (r : R2) (op : D → D → Option (List D)) : Prop := ∀ Hs H x y a b d, Same Hs H → Bp K Hs H x a → Bp K Hs H y b → op a b = some d →
  ∀ Q : VK, (∀ p vs H', Ext rc Hs H Hs H' → (∀ w, RowAt K rc H w → RowAt K rc H' w) → H p = none → H' p = some (.lst vs) → RpAll K Hs vs d → Q (.ref p) H') → r x y H Q
def mOpF (op : D → D → Option (List D)) (fa fb : MM D) : MM (List D) := mBind fa fun a => mBind fb fun b => mO (op a b)
theorem df_op {op : Operator} {r : R2} {o : D → D → Option (List D)} (hr : OpR X (binaryOp op) r) (ho : OpF X.K rc r o) (ha : DB X rc m a ta fa) (hb : DB X rc m' b tb fb) : DF X rc (.BinOp a op b pos) (tOp r ta tb) (mOpF o fa fb) := df_of (pe_op hr ha.pe hb.pe) fun Hs0 H0 σ Hs H ρ R d w hf Q q => by
  obtain ⟨a, r1, h1, h2⟩ := mBind_some hf
  obtain ⟨b, r2, h3, h4⟩ := mBind_some h2
  obtain ⟨h5, rfl⟩ := mO_some h4
  refine ha.se Hs0 H0 σ Hs H ρ R a r1 h1 _ fun x Hs1 H1 e1 w1 p1 => ?_
  refine hb.se Hs0 H0 σ Hs1 H1 (ρ.wr r1) (R.ext' e1 w1) b _ h3 _ fun y Hs2 H2 e2 w2 p2 => ?_
  refine ho Hs2 H2 x y a b d e2.s (p1.ext e2).b p2.b h5 Q fun p vs H' e3 w3 hn hp hr => ?_
  have e12 := e1.trans e2
  have hn0 : H p = none := by
    cases z : H p with
    | none => rfl
    | some u => exact absurd hn (e12.d p (by rw [z]; simp))
  exact q _ Hs2 H' (e12.trans e3) (w3 _ w2) ⟨p, vs, rfl, hn0, hp, same_none e12.s hn, hr⟩
def dCat : D → D → Option (List D)
  | .list xs, .list ys => if xs.length + ys.length ≤ 1000000 then some (xs ++ ys) else none
  | _, _ => none
def dRep : D → D → Option (List D)
  | .list xs, .int k => if 0 ≤ k ∧ k ≤ 1000 ∧ xs.length ≤ 1000 then some (List.replicate k.toNat xs).flatten else none
  | _, _ => none
theorem f_cat {K : PySem.W.Frag} : OpF K rc rCat dCat := fun Hs H x y a b d e hx hy ho Q q => by
  cases a <;> cases b <;> try (cases ho)
  rename_i xs ys
  simp only [dCat] at ho
  by_cases hl : xs.length + ys.length ≤ 1000000
  · rw [if_pos hl] at ho
    cases ho
    obtain ⟨p, vs, rfl, h1, h2⟩ := hx.lst_inv e
    obtain ⟨p2, ws, rfl, h3, h4⟩ := hy.lst_inv e
    refine ⟨p, p2, vs, ws, rfl, rfl, h1, h3, by rw [h2.length, h4.length]; exact big_line hl, fun z hz => ?_⟩
    exact q z _ _ (.newP e hz) (fun w => row_new hz) hz upd_same (h2.append h4)
  · rw [if_neg hl] at ho; cases ho
theorem f_rep {K : PySem.W.Frag} : OpF K rc rRep dRep := fun Hs H x y a b d e hx hy ho Q q => by
  cases a <;> cases b <;> try (cases ho)
  rename_i xs k
  simp only [dRep] at ho
  by_cases hl : 0 ≤ k ∧ k ≤ 1000 ∧ xs.length ≤ 1000
  · rw [if_pos hl] at ho
    cases ho
    obtain ⟨h0, h9, hz⟩ := hl
    obtain ⟨p, vs, rfl, h1, h2⟩ := hx.lst_inv e
    have hm : vs.length * k.toNat ≤ 1000 * 1000 := Nat.mul_le_mul (by rw [h2.length]; exact hz) (by omega)
    refine ⟨p, k, vs, rfl, hy.int_inv, h1, by omega, by omega, by rw [sizeLine_eq]; omega, fun z hz' => ?_⟩
    exact q z _ _ (.newP e hz') (fun w => row_new hz') hz' upd_same (h2.rep _)
  · rw [if_neg hl] at ho; cases ho
def dCatT : D → D → Option D
  | .tuple xs, .tuple ys => if xs.length + ys.length ≤ 1000000 then some (.tuple (xs ++ ys)) else none
  | _, _ => none
theorem s_catT {K : PySem.W.Frag} : OpS K rc (rCatA K) dCatT := fun Hs H x y a b d e hx hy ho Q q => by
  cases a <;> cases b <;> try (cases ho)
  rename_i xs ys
  simp only [dCatT] at ho
  by_cases hl : xs.length + ys.length ≤ 1000000
  · rw [if_pos hl] at ho
    cases ho
    obtain ⟨p, vs, rfl, h1, h2⟩ := hx.tup_inv
    obtain ⟨p2, ws, rfl, h3, h4⟩ := hy.tup_inv
    refine ⟨p, p2, vs, ws, rfl, rfl, seqT_same e h1, seqT_same e h3, by rw [h2.length, h4.length]; exact big_line hl, fun z => ?_, fun _ z => ?_, fun _ _ z hz => ?_⟩
    · subst z
      cases h2
      exact q _ Hs H (.refl e) (fun _ w => w) hy.tup_rp
    · subst z
      cases h4
      rw [List.append_nil] at q
      exact q _ Hs H (.refl e) (fun _ w => w) hx.tup_rp
    · have hs := same_none e hz
      exact q _ _ _ (.new e hz) (fun w => row_new hz) (.tup (.inl (.inl upd_same)) ((h2.append h4).new hs))
  · rw [if_neg hl] at ho; cases ho


def dRepT : D → D → Option D
  | .tuple xs, .int k => if 2 ≤ k ∧ k ≤ 1000 ∧ xs.length ≤ 1000 ∧ xs ≠ [] then some (.tuple (List.replicate k.toNat xs).flatten) else none
  | _, _ => none
theorem s_repT {K : PySem.W.Frag} : OpS K rc (rRepT K) dRepT := fun Hs H x y a b d e hx hy ho Q q => by
  cases a <;> cases b <;> try (cases ho)
  rename_i xs k
  simp only [dRepT] at ho
  by_cases hl : 2 ≤ k ∧ k ≤ 1000 ∧ xs.length ≤ 1000 ∧ xs ≠ []
  · rw [if_pos hl] at ho
    cases ho
    obtain ⟨p, vs, rfl, h1, h2⟩ := hx.tup_inv
    refine ⟨p, k, vs, rfl, hy.int_inv, seqT_same e h1, fun z => ?_, hl.1, hl.2.1, by rw [h2.length]; exact hl.2.2.1, fun z hz => ?_⟩
    · subst z
      cases h2
      exact hl.2.2.2 rfl
    · have hs := same_none e hz
      exact q _ _ _ (.new e hz) (fun w => row_new hz) (.tup (.inl (.inl upd_same)) ((h2.rep _).new hs))
  · rw [if_neg hl] at ho; cases ho
/-! ### items and slices -/
def dIx : D → D → Option D
  | .list ds, .int i => atI ds i
  | .tuple ds, .int i => atI ds i
  | _, _ => none
theorem RpAll.atI {K : PySem.W.Frag} {H : Hp} {vs : List V} {ds : List D} {i : Int} {d : D} (h : RpAll K H vs ds) (e : L2.atI ds i = some d) : ∃ v, L2.atI vs i = some v ∧ Rp K H v d := by
  unfold L2.atI at e ⊢
  rw [h.length]
  cases q : ixN ds.length i with
  | none => rw [q] at e; cases e
  | some j =>
    rw [q] at e
    exact h.get e
theorem s_ix {K : PySem.W.Frag} : OpS K rc (rIx K) dIx := fun Hs H x y a b d e hx hy ho Q q => by
  cases a <;> cases b <;> try (cases ho)
  · rename_i xs i
    obtain ⟨p, vs, rfl, h1, h2⟩ := hx.lst_inv e
    obtain ⟨v, h3, h4⟩ := h2.atI ho
    exact .inl ⟨p, vs, i, v, rfl, hy.int_inv, SqL.of h1, h3, q v Hs H (.refl e) (fun _ w => w) h4⟩
  · rename_i xs i
    obtain ⟨p, vs, rfl, h1, h2⟩ := hx.tup_inv
    obtain ⟨v, h3, h4⟩ := h2.atI ho
    exact .inr (.inl ⟨p, vs, i, v, rfl, hy.int_inv, seqT_same e h1, h3, q v Hs H (.refl e) (fun _ w => w) h4⟩)
theorem de_ix (ha : DB X rc m a ta fa) (hb : DB X rc m' b tb fb) (hs : PlainIx b := by exact fun _ _ => rfl) : DE X rc (.Subscript a b pos) (tOp (rIx X.K) ta tb) (mOp dIx fa fb) := ⟨pe_ix ix_seq ha.pe hb.pe hs, sem_op s_ix ha.se hb.se⟩
abbrev PO_ : Hp → Hp → Hp → Option Int → Option Int → Prop := fun _ _ _ a b => a = b
structure DO (X : Cx) (rc : Rc) (e : Option Expr) (t : TO) (f : MM (Option Int)) : Prop where
  pe : PO X e t
  se : Sem X.K rc PO_ t f
theorem do_none : DO X rc none tNoPart (mRet none) := ⟨po_none, fun Hs0 H0 σ Hs H ρ R d r hf Q q => by
  cases hf
  exact q none Hs H (.refl R.same) R.row rfl⟩
def mPart (fa : MM D) : MM (Option Int) := mBind fa fun a => mO (match a with
  | .int i => some (some i)
  | _ => none)
theorem do_some (ha : DE X rc a ta fa) : DO X rc (some a) (tPart ta) (mPart fa) := ⟨po_some ha.pe, fun Hs0 H0 σ Hs H ρ R d r hf Q q => by
  obtain ⟨a, r1, h1, h2⟩ := mBind_some hf
  obtain ⟨h3, rfl⟩ := mO_some h2
  cases a with
  | int i =>
    cases h3
    exact ha.se Hs0 H0 σ Hs H ρ R _ _ h1 _ fun x Hs1 H1 e1 w1 p1 => ⟨i, p1.int_inv, q _ Hs1 H1 e1 w1 rfl⟩
  | _ => cases h3⟩
def cutD (xs : List D) (lo hi : Option Int) : List D := (xs.drop (HT.sIx xs.length 0 lo)).take (HT.sIx xs.length xs.length hi - HT.sIx xs.length 0 lo)
def dSl (a : D) (lo hi : Option Int) : Option D := match a with
  | .list ds => some (.list (cutD ds lo hi))
  | .tuple ds => some (.tuple (cutD ds lo hi))
  | _ => none
theorem RpAll.cut {K : PySem.W.Frag} {H : Hp} {vs : List V} {ds : List D} (h : RpAll K H vs ds) (lo hi : Option Int) : RpAll K H (cutV vs lo hi) (cutD ds lo hi) := by
  unfold cutV cutD
  rw [h.length]
  exact (h.drop _).take _
def mSl (fa : MM D) (fl fh : MM (Option Int)) : MM D := mBind fa fun a => mBind fl fun l => mBind fh fun h => mO (dSl a l h)
def rSlD (K : PySem.W.Frag) : V → Option Int → Option Int → Hp → VK → Prop := fun x lo hi H Q => rSlL K x lo hi H Q ∨ rSlA K x lo hi H Q
theorem de_slice {lo hi : Option Expr} {tl th : TO} {fl fh : MM (Option Int)} {p2 : Pos} (ha : DB X rc m a ta fa) (hl : DO X rc lo tl fl) (hh : DO X rc hi th fh) : DE X rc (.Subscript a (.Slice lo hi none p2) pos) (tSl (rSlD X.K) ta tl th) (mSl fa fl fh) := ⟨pe_slice (sl_list.or sl_tupA) ha.pe hl.pe hh.pe, fun Hs0 H0 σ Hs H ρ R d w hf Q q => by
  obtain ⟨a, r1, h1, h2⟩ := mBind_some hf
  obtain ⟨l, r2, h3, h4⟩ := mBind_some h2
  obtain ⟨u, r3, h5, h6⟩ := mBind_some h4
  obtain ⟨h7, rfl⟩ := mO_some h6
  refine ha.se Hs0 H0 σ Hs H ρ R a r1 h1 _ fun x Hs1 H1 e1 w1 p1 => ?_
  refine hl.se Hs0 H0 σ Hs1 H1 (ρ.wr r1) (R.ext' e1 w1) l _ h3 _ fun y Hs2 H2 e2 w2 p2 => ?_
  have R2 := R.ext' (e1.trans e2) w2
  refine hh.se Hs0 H0 σ Hs2 H2 (ρ.wr r2) R2 u _ h5 _ fun y2 Hs3 H3 e3 w3 p3 => ?_
  cases p2
  cases p3
  have e13 := (e1.trans e2).trans e3
  have p1' := ((p1.ext e2).ext e3).b
  cases a with
  | list ds =>
    cases h7
    obtain ⟨p, vs, rfl, h8, h9⟩ := p1'.lst_inv e3.s
    refine .inl ⟨p, vs, rfl, SqL.of h8, fun z hz => ?_⟩
    have hs := same_none e3.s hz
    exact q _ _ _ (e13.trans (.new e3.s hz)) (row_new hz w3) (.lst upd_same ((h9.cut l u).new hs))
  | tuple ds =>
    cases h7
    obtain ⟨p, vs, rfl, h8, h9⟩ := p1'.tup_inv
    refine .inr ⟨p, vs, rfl, seqT_same e3.s h8, fun hw => ?_, fun _ z hz => ?_⟩
    · have ew : cutD ds l u = ds := by
        unfold cutD
        rw [← h9.length, hw.1, hw.2, List.drop_zero, Nat.sub_zero, h9.length, List.take_length]
      rw [ew] at q
      exact q _ _ _ e13 w3 p1'.tup_rp
    · have hs := same_none e3.s hz
      exact q _ _ _ (e13.trans (.new e3.s hz)) (row_new hz w3) (.tup (.inl (.inl upd_same)) ((h9.cut l u).new hs))
  | _ => cases h7⟩
/-! ### choices, tests -/
def mIf {β : Type} (ft : MM Bool) (fa fb : MM β) : MM β := mBind ft fun k => if k = true then fa else fb
variable {tt tt' : TT} {ft ft' : MM Bool}
theorem de_if {c : Expr} (ht : DT X rc c tt ft) (ha : DE X rc a ta fa) (hb : DE X rc b tb fb) : DE X rc (.IfExp c a b pos) (tIf tt ta tb) (mIf ft fa fb) := ⟨pe_ifExp ht.pe ha.pe hb.pe, fun Hs0 H0 σ Hs H ρ R d w hf Q q => by
  obtain ⟨k, r1, h1, h2⟩ := mBind_some hf
  refine ht.se Hs0 H0 σ Hs H ρ R k r1 h1 _ fun k' Hs1 H1 e1 w1 p1 => ?_
  cases p1
  cases k with
  | true =>
    rw [if_pos rfl] at h2 ⊢
    exact ha.se Hs0 H0 σ Hs1 H1 _ (R.ext' e1 w1) d w h2 Q fun v Hs2 H2 e2 w2 p2 => q v Hs2 H2 (e1.trans e2) w2 p2
  | false =>
    rw [if_neg Bool.false_ne_true] at h2 ⊢
    exact hb.se Hs0 H0 σ Hs1 H1 _ (R.ext' e1 w1) d w h2 Q fun v Hs2 H2 e2 w2 p2 => q v Hs2 H2 (e1.trans e2) w2 p2⟩
def mNot (ft : MM Bool) : MM Bool := mBind ft fun k => mRet (!k)
theorem dt_not (ht : DT X rc a tt ft) : DT X rc (.UnaryOp .Not a pos) (tNot tt) (mNot ft) := ⟨pt_not ht.pe, fun Hs0 H0 σ Hs H ρ R d w hf Q q => by
  obtain ⟨k, r1, h1, h2⟩ := mBind_some hf
  cases h2
  exact ht.se Hs0 H0 σ Hs H ρ R k _ h1 _ fun k' Hs1 H1 e1 w1 p1 => q _ Hs1 H1 e1 w1 (by cases p1; rfl)⟩
structure DW (X : Cx) (rc : Rc) (e : Expr) (t : TT) (f : MM Bool) : Prop where
  pe : PW X e t
  se : Sem X.K rc PT_ t f
theorem DW.dt (h : DW X rc e tt ft) : DT X rc e tt ft := ⟨h.pe.pt, h.se⟩
theorem dw_and1 (h : DT X rc a tt ft) : DW X rc (.BoolOp .And [a] pos) tt ft := ⟨pw_and1 h.pe, h.se⟩
theorem dw_or1 (h : DT X rc a tt ft) : DW X rc (.BoolOp .Or [a] pos) tt ft := ⟨pw_or1 h.pe, h.se⟩
def mAnd (f g : MM Bool) : MM Bool := mBind f fun k => if k = true then g else mRet false
def mOr (f g : MM Bool) : MM Bool := mBind f fun k => if k = true then mRet true else g
theorem sem_and {K : PySem.W.Frag} (h1 : Sem K rc PT_ tt ft) (h2 : Sem K rc PT_ tt' ft') : Sem K rc PT_ (tAnd tt tt') (mAnd ft ft') := fun Hs0 H0 σ Hs H ρ R d w hf Q q => by
  obtain ⟨k, r1, h3, h4⟩ := mBind_some hf
  refine h1 Hs0 H0 σ Hs H ρ R k r1 h3 _ fun k' Hs1 H1 e1 w1 p1 => ?_
  cases p1
  cases k with
  | true =>
    rw [if_pos rfl] at h4 ⊢
    exact h2 Hs0 H0 σ Hs1 H1 _ (R.ext' e1 w1) d w h4 Q fun v Hs2 H2 e2 w2 p2 => q v Hs2 H2 (e1.trans e2) w2 p2
  | false =>
    rw [if_neg Bool.false_ne_true] at h4 ⊢
    cases h4
    exact q _ Hs1 H1 e1 w1 rfl
theorem sem_or {K : PySem.W.Frag} (h1 : Sem K rc PT_ tt ft) (h2 : Sem K rc PT_ tt' ft') : Sem K rc PT_ (tOr tt tt') (mOr ft ft') := fun Hs0 H0 σ Hs H ρ R d w hf Q q => by
  obtain ⟨k, r1, h3, h4⟩ := mBind_some hf
  refine h1 Hs0 H0 σ Hs H ρ R k r1 h3 _ fun k' Hs1 H1 e1 w1 p1 => ?_
  cases p1
  cases k with
  | false =>
    rw [if_neg Bool.false_ne_true] at h4 ⊢
    exact h2 Hs0 H0 σ Hs1 H1 _ (R.ext' e1 w1) d w h4 Q fun v Hs2 H2 e2 w2 p2 => q v Hs2 H2 (e1.trans e2) w2 p2
  | true =>
    rw [if_pos rfl] at h4 ⊢
    cases h4
    exact q _ Hs1 H1 e1 w1 rfl
theorem dw_and {rest : List Expr} (ha : DT X rc a tt ft) (hb : DW X rc (.BoolOp .And (b :: rest) pos) tt' ft') : DW X rc (.BoolOp .And (a :: b :: rest) pos) (tAnd tt tt') (mAnd ft ft') := ⟨pw_and ha.pe hb.pe, sem_and ha.se hb.se⟩
theorem dw_or {rest : List Expr} (ha : DT X rc a tt ft) (hb : DW X rc (.BoolOp .Or (b :: rest) pos) tt' ft') : DW X rc (.BoolOp .Or (a :: b :: rest) pos) (tOr tt tt') (mOr ft ft') := ⟨pw_or ha.pe hb.pe, sem_or ha.se hb.se⟩
/-- and, or, not as values -/
def mAndV (fa fb : MM D) : MM D := mBind (mTest fa) fun k => if k = true then fb else mRet (.bool false)
def mOrV (fa fb : MM D) : MM D := mBind (mTest fa) fun k => if k = true then mRet (.bool true) else fb
def mNotV (fa : MM D) : MM D := mBind (mTest fa) fun k => mRet (.bool (!k))
theorem de_one {op : BoolOp} (h : DE X rc a ta fa) : DE X rc (.BoolOp op [a] pos) ta fa := ⟨pe_one h.pe, h.se⟩
theorem de_and {rest : List Expr} (ha : DE X rc a ta fa) (hb : DE X rc (.BoolOp .And (b :: rest) pos) tb fb) : DE X rc (.BoolOp .And (a :: b :: rest) pos) (tAndV ta tb) (mAndV fa fb) := ⟨pe_and ha.pe hb.pe, fun Hs0 H0 σ Hs H ρ R d w hf Q q => by
  obtain ⟨k, r1, h3, h4⟩ := mBind_some hf
  refine ha.se Hs0 H0 σ Hs H ρ R _ r1 (mTest_some h3) _ fun k' Hs1 H1 e1 w1 p1 => ⟨k, p1.bl_inv, ?_⟩
  cases k with
  | true =>
    rw [if_pos rfl] at h4 ⊢
    exact hb.se Hs0 H0 σ Hs1 H1 _ (R.ext' e1 w1) d w h4 Q fun v Hs2 H2 e2 w2 p2 => q v Hs2 H2 (e1.trans e2) w2 p2
  | false =>
    rw [if_neg Bool.false_ne_true] at h4 ⊢
    cases h4
    exact q _ Hs1 H1 e1 w1 (.bl _)⟩
theorem de_or {rest : List Expr} (ha : DE X rc a ta fa) (hb : DE X rc (.BoolOp .Or (b :: rest) pos) tb fb) : DE X rc (.BoolOp .Or (a :: b :: rest) pos) (tOrV ta tb) (mOrV fa fb) := ⟨pe_or ha.pe hb.pe, fun Hs0 H0 σ Hs H ρ R d w hf Q q => by
  obtain ⟨k, r1, h3, h4⟩ := mBind_some hf
  refine ha.se Hs0 H0 σ Hs H ρ R _ r1 (mTest_some h3) _ fun k' Hs1 H1 e1 w1 p1 => ⟨k, p1.bl_inv, ?_⟩
  cases k with
  | false =>
    rw [if_neg Bool.false_ne_true] at h4 ⊢
    exact hb.se Hs0 H0 σ Hs1 H1 _ (R.ext' e1 w1) d w h4 Q fun v Hs2 H2 e2 w2 p2 => q v Hs2 H2 (e1.trans e2) w2 p2
  | true =>
    rw [if_pos rfl] at h4 ⊢
    cases h4
    exact q _ Hs1 H1 e1 w1 (.bl _)⟩
theorem de_not (ha : DE X rc a ta fa) : DE X rc (.UnaryOp .Not a pos) (tNotV ta) (mNotV fa) := ⟨pe_not ha.pe, fun Hs0 H0 σ Hs H ρ R d w hf Q q => by
  obtain ⟨k, r1, h3, h4⟩ := mBind_some hf
  cases h4
  exact ha.se Hs0 H0 σ Hs H ρ R _ _ (mTest_some h3) _ fun k' Hs1 H1 e1 w1 p1 => ⟨k, p1.bl_inv, q _ Hs1 H1 e1 w1 (.bl _)⟩⟩
/-! ### unary minus, None -/
def mUn (op : D → Option D) (fa : MM D) : MM D := mBind fa fun a => mO (op a)
def dNeg : D → Option D
  | .int i => some (.int (-i))
  | _ => none
theorem de_neg (ha : DB X rc m a ta fa) : DE X rc (.UnaryOp .USub a pos) (tUn (rU fun i => .int (-i)) ta) (mUn dNeg fa) := ⟨pe_un un_neg ha.pe, fun Hs0 H0 σ Hs H ρ R d w hf Q q => by
  obtain ⟨a, r1, h1, h2⟩ := mBind_some hf
  obtain ⟨h3, rfl⟩ := mO_some h2
  cases a with
  | int i =>
    cases h3
    exact ha.se Hs0 H0 σ Hs H ρ R _ _ h1 _ fun x Hs1 H1 e1 w1 p1 => ⟨i, p1.b.int_inv, q _ Hs1 H1 e1 w1 (.int _)⟩
  | _ => cases h3⟩
def dIsN : D → Bool
  | .none => true
  | _ => false
theorem Bp.isN {K : PySem.W.Frag} {Hs H : Hp} {v : V} {d : D} (h : Bp K Hs H v d) : decide (v = .non) = dIsN d := by
  cases h with
  | sh h => cases h <;> first | rfl | exact decide_eq_false (fun z => by cases z)
  | lst h r => exact decide_eq_false (fun z => by cases z)
theorem de_isN {j} {pos'} (ha : DB X rc m a ta fa) : DE X rc (.Compare a [.Is] [.Constant .none j pos'] pos) (tIsN ta) (mUn (fun d => some (.bool (dIsN d))) fa) := ⟨pe_cmp (pc_isN ha.pe), fun Hs0 H0 σ Hs H ρ R d w hf Q q => by
  obtain ⟨a, r1, h1, h2⟩ := mBind_some hf
  obtain ⟨h3, rfl⟩ := mO_some h2
  cases h3
  exact ha.se Hs0 H0 σ Hs H ρ R _ _ h1 _ fun x Hs1 H1 e1 w1 p1 => by
    show Q (V.bl (decide (x = .non))) H1
    rw [p1.b.isN]
    exact q _ Hs1 H1 e1 w1 (.bl _)⟩
theorem de_notN {j} {pos'} (ha : DB X rc m a ta fa) : DE X rc (.Compare a [.IsNot] [.Constant .none j pos'] pos) (tNotN ta) (mUn (fun d => some (.bool (!dIsN d))) fa) := ⟨pe_cmp (pc_notN ha.pe), fun Hs0 H0 σ Hs H ρ R d w hf Q q => by
  obtain ⟨a, r1, h1, h2⟩ := mBind_some hf
  obtain ⟨h3, rfl⟩ := mO_some h2
  cases h3
  exact ha.se Hs0 H0 σ Hs H ρ R _ _ h1 _ fun x Hs1 H1 e1 w1 p1 => by
    show Q (V.bl (!decide (x = .non))) H1
    rw [p1.b.isN]
    exact q _ Hs1 H1 e1 w1 (.bl _)⟩
end
end DL

namespace DL
open PySem PySem.Spec PyProof.Rows L2
/-! ### zip and enumerate over lists and tuples in any mix -/
/-- a source: a list (true) or a tuple (false), at an address -/
abbrev Src := Bool × Addr
def SqS (K : PySem.W.Frag) (H : Hp) (S : Src) (xs : List V) : Prop := if S.1 = true then SqL K H S.2 xs else SqT K H S.2 xs
def IsS (h : Heap) (S : Src) (its : Array Value) : Prop := if S.1 = true then h.IsList S.2 its else h.IsTuple S.2 its
def ItS (h : Heap) (it : Addr) (S : Src) (i : Nat) : Prop := if S.1 = true then h.IsListIter it S.2 i else h.IsTupleIter it S.2 i
section
variable {X : Cx} {pins : List (Addr × Obj)} {σ : L2.St} {H : Hp} {s : Shared} {S : Src} {xs ys : List V}
theorem _root_.L2.Inv.src (I : Inv X pins σ H s) (h : SqS X.K H S xs) : ∃ its : List Value, Vals xs its ∧ IsS s.heap S its.toArray ∧ xs.length ≤ sizeLine := by
  obtain ⟨k, a⟩ := S
  cases k with
  | true =>
    obtain ⟨its, r, p, z⟩ := I.list (show SqL X.K H a xs from h)
    exact ⟨its, r, p.isList, z⟩
  | false =>
    obtain ⟨its, r, p, z⟩ := I.tuple (show SqT X.K H a xs from h)
    exact ⟨its, r, p, z⟩
theorem _root_.L2.Inv.src_inj (I : Inv X pins σ H s) (h : SqS X.K H S xs) (h' : SqS X.K H S ys) : xs = ys := by
  obtain ⟨k, a⟩ := S
  cases k with
  | true => exact I.list_inj (show SqL X.K H a xs from h) h'
  | false => exact I.tuple_inj (show SqT X.K H a xs from h) h'
theorem IsS.lt {h : Heap} {its : Array Value} (x : IsS h S its) : S.2 < h.objs.size := by
  obtain ⟨k, a⟩ := S
  cases k with
  | true =>
    obtain ⟨o, e, _⟩ := (show h.IsList a its from x)
    exact Heap.lt_size e
  | false =>
    obtain ⟨o, e, _⟩ := (show h.IsTuple a its from x)
    exact Heap.lt_size e
theorem IsS.keep {h h' : Heap} {its : Array Value} (x : IsS h S its) (k : ∀ o, h.get? S.2 = some o → h'.get? S.2 = some o) : IsS h' S its := by
  obtain ⟨b, a⟩ := S
  cases b with
  | true => exact (show h.IsList a its from x).at k
  | false => exact (show h.IsTuple a its from x).at k
theorem ItS.keep {h h' : Heap} {it : Addr} {i : Nat} (x : ItS h it S i) (k : ∀ o, h.get? it = some o → h'.get? it = some o) : ItS h' it S i := by
  obtain ⟨b, a⟩ := S
  cases b with
  | true => exact (show h.IsListIter it a i from x).at k
  | false => exact (show h.IsTupleIter it a i from x).at k
theorem ItS.obj {h : Heap} {it : Addr} {i : Nat} (x : ItS h it S i) : ∃ o, h.get? it = some o ∧ ∀ v, o.data ≠ .cell v := by
  obtain ⟨b, a⟩ := S
  cases b with
  | true =>
    obtain ⟨o, e, _, d⟩ := (show h.IsListIter it a i from x)
    exact ⟨o, e, fun v q => by rw [d] at q; cases q⟩
  | false =>
    obtain ⟨o, e, _, d⟩ := (show h.IsTupleIter it a i from x)
    exact ⟨o, e, fun v q => by rw [d] at q; cases q⟩
theorem src_draws {prog : Program} {w : World} {A : Around} (hh : A.handled = none) (it : Addr) (hne : S.2 ≠ it) (items : Array Value) : Draws prog w A it [it, S.2] items.size (fun i v => items[i]? = some v) (fun i h => ItS h it S i ∧ IsS h S items) := by
  obtain ⟨k, a⟩ := S
  cases k with
  | true => exact Draws.list hh it a hne items
  | false => exact Draws.tuple hh it a hne items
def itO (S : Src) : Obj := if S.1 = true then { cls := .type "list_iterator", data := .fields #[.ref S.2, .int 0 0] } else { cls := .type "tuple_iterator", data := .fields #[.ref S.2, .int 0 0] }
theorem src_begins (S : Src) (items : Array Value) : Begins (.ref S.2) (itO S) fun h => IsS h S items := by
  obtain ⟨k, a⟩ := S
  cases k with
  | true => exact begins_list a items
  | false => exact begins_tuple a items
theorem itS_begin {h : Heap} {it : Addr} (e : h.get? it = some (itO S)) : ItS h it S 0 := by
  obtain ⟨k, a⟩ := S
  cases k with
  | true => exact ⟨_, e, rfl, rfl⟩
  | false => exact ⟨_, e, rfl, rfl⟩
end
/-- the general turn of an iterator that gives out new tuples -/
theorem turn_T {P : Program} {w : World} {K : PySem.W.Frag} {elts : List Expr} {kk : Nat} {tpos : Pos} {J : It} {fp wr : List Addr} {z : Addr} {TN : Nat → Heap → Prop} (mem : z ∈ fp) (wrfp : ∀ b ∈ wr, b ∈ fp)
    (obj : ∀ i h, TN i h → ∀ b ∈ fp, ∃ o, h.get? b = some o ∧ ∀ v, o.data ≠ .cell v)
    (keep : ∀ i h h', TN i h → (∀ b ∈ fp, ∀ o, h.get? b = some o → h'.get? b = some o) → TN i h')
    (go : ∀ (X : Cx), X.prog = P → X.w = w → X.K = K → X.calm = true → ∀ (i : Nat) (pins : List (Addr × Obj)) (s : Shared) (σ : L2.St) (H : Hp), Inv X pins σ H s → (∀ b ∈ fp, H b = none) → TN i s.heap → J.go i H →
      ∃ FP n Pt St Mid, WalksT P w X.A z FP wr n Pt St Mid ∧ i < n ∧ St i s.heap ∧ (∀ j h', St j h' → TN j h') ∧ ∀ vals : Array Value, Pt i vals → ∃ vs : List V, Vals vs vals.toList ∧ vs.length ≤ sizeLine ∧ ∀ T, H T = none → J.yld i H (.ref T) (upd H T (.tup vs)))
    (stop : ∀ (X : Cx), X.prog = P → X.w = w → X.K = K → X.calm = true → ∀ (i : Nat) (pins : List (Addr × Obj)) (s : Shared) (σ : L2.St) (H : Hp), Inv X pins σ H s → (∀ b ∈ fp, H b = none) → TN i s.heap → J.stop i H →
      ∃ FP Pt St Mid, WalksT P w X.A z FP wr i Pt St Mid ∧ St i s.heap)
    (self : ∀ (A : Around) (i : Nat) (s : Shared) (Q : Value → Shared → Prop) (E : Value → Shared → Prop), TN i s.heap → Q (.ref z) s → wpAny (model P w) A (pyIter (.ref z)) Q E s) :
    Turn P w K (.Tuple elts kk tpos) J fp z TN where
  mem := mem
  obj := obj
  keep := keep
  item := by
    intro X hP hw hK hc i pins s σ H E I hf st hg
    obtain ⟨FP, n, Pt, St, Mid, W, hi, hst, hTN, hy⟩ := go X hP hw hK hc i pins s σ H I (fun b hb => (hf b hb).1) st hg
    refine W.item i s _ E hi hst fun T vals h' tk hP' hn hT hM hk => ⟨.ref T, rfl, ?_⟩
    refine W.go elts kk tpos i T { s with heap := h', toks := tk } _ E hM fun h2 hst2 hk2 => ?_
    obtain ⟨vs, hv, hl, hyl⟩ := hy vals hP'
    have hT2 : h2.IsTuple T vals := hT.at fun o e => hk2 T o (W.apart i T h' hM) e
    have hTn : H T = none := I.hok.fresh hn
    have new : ObjOk X.prog X.w (upd H T (.tup vs)) h2 T (.tup vs) := ⟨hl, vals.toList, hv, by rw [show vals.toList.toArray = vals by simp]; exact hT2⟩
    have I1 : Inv X pins σ (upd H T (.tup vs)) { s with heap := h2, toks := tk } :=
      I.turnedNew (t' := tk) (ch := fp) (fun c o hb q => hk2 c o (fun z => hb (wrfp c z)) (hk c o (fun z => hb (wrfp c z)) q)) hf hn new
    refine ⟨.ref T, _, I1, rfl, hyl T hTn, hTN _ _ hst2, fun b hb => ?_⟩
    obtain ⟨o, e, _⟩ := obj i s.heap st b hb
    have ne : b ≠ T := Nat.ne_of_lt (Nat.lt_of_lt_of_le (Heap.lt_size e) hn)
    rw [upd_ne ne]
    exact (hf b hb).1
  done := by
    intro X hP hw hK hc i pins s σ H E I hf st hg
    obtain ⟨FP, Pt, St, Mid, W, hst⟩ := stop X hP hw hK hc i pins s σ H I (fun b hb => (hf b hb).1) st hg
    refine W.done s _ E hst fun h' tk hk => ⟨rfl, ?_⟩
    exact I.turnedL (t' := tk) (ch := fp) (fun c o hb q => hk c o (fun z => hb (wrfp c z)) q) hf
  self := self
/-! ### zip of two -/
def Itz2 (K : PySem.W.Frag) (S1 S2 : Src) : It :=
  ⟨fun i H => ∃ (xs ys : List V) (x y : V), SqS K H S1 xs ∧ SqS K H S2 ys ∧ xs[i]? = some x ∧ ys[i]? = some y,
    fun i H v H' => ∃ T x y, v = .ref T ∧ H T = none ∧ H' = upd H T (.tup [x, y]) ∧ (∀ xs, SqS K H S1 xs → xs[i]? = some x) ∧ ∀ ys, SqS K H S2 ys → ys[i]? = some y,
    fun i H => ∃ xs ys : List V, SqS K H S1 xs ∧ SqS K H S2 ys ∧ i = min xs.length ys.length⟩
theorem vals_at {xs : List V} {its : List Value} {i : Nat} {u : Value} (r : Vals xs its) (h : its.toArray[i]? = some u) : ∃ x, xs[i]? = some x ∧ RelV x u := by
  have h' : its[i]? = some u := by simpa using h
  cases e : xs[i]? with
  | none =>
    rw [r.none_of e] at h'
    cases h'
  | some x =>
    obtain ⟨u', h1, h2⟩ := r.get e
    rw [h'] at h1
    cases h1
    exact ⟨x, rfl, h2⟩
theorem turn_zip2 {P : Program} {w : World} {K : PySem.W.Frag} {elts : List Expr} {kk : Nat} {tpos : Pos} {S1 S2 : Src} {N : Nat} (h1 : S1.2 < N) (h2 : S2.2 < N) :
    Turn P w K (.Tuple elts kk tpos) (Itz2 K S1 S2) [N + 4, N + 2, N + 3, N, N + 1] (N + 4) (fun i h => IsZip h (N + 4) (N + 2) (N + 3) .none ∧ IsTupOf2 h (N + 2) (.ref N) (.ref (N + 1)) ∧ (∃ a1 a2, IsTupOf2 h (N + 3) a1 a2) ∧ ItS h N S1 i ∧ ItS h (N + 1) S2 i) := by
  have Sp : ZipSep2 (N + 4) (N + 2) (N + 3) N (N + 1) [N, S1.2] [N + 1, S2.2] := zip_sep2 (fp1 := [S1.2]) (fp2 := [S2.2]) (fun b hb => by rw [List.mem_singleton.mp hb]; exact h1) (fun b hb => by rw [List.mem_singleton.mp hb]; exact h2)
  have n1 : S1.2 ≠ N := Nat.ne_of_lt h1
  have n2 : S2.2 ≠ N + 1 := Nat.ne_of_lt (Nat.lt_succ_of_lt h2)
  refine turn_T (wr := [N + 4, N + 3, N, N + 1]) (by simp) (fun b hb => by
      have e : b = N + 4 ∨ b = N + 3 ∨ b = N ∨ b = N + 1 := by simpa using hb
      rcases e with e | e | e | e <;> rw [e] <;> simp) ?_ ?_ ?_ ?_ ?_
  · intro i h st b hb
    obtain ⟨hz, hTI, ⟨x, y, hTO⟩, a1, a2⟩ := st
    have e : b = N + 4 ∨ b = N + 2 ∨ b = N + 3 ∨ b = N ∨ b = N + 1 := by simpa using hb
    rcases e with e | e | e | e | e
    · rw [e]; exact ⟨_, hz, fun v q => nomatch q⟩
    · rw [e]; exact ⟨_, hTI, fun v q => nomatch q⟩
    · rw [e]; exact ⟨_, hTO, fun v q => nomatch q⟩
    · rw [e]; exact a1.obj
    · rw [e]; exact a2.obj
  · intro i h h' st k
    obtain ⟨hz, hTI, ⟨x, y, hTO⟩, a1, a2⟩ := st
    exact ⟨k _ (by simp) _ hz, k _ (by simp) _ hTI, ⟨x, y, k _ (by simp) _ hTO⟩, a1.keep fun o q => k N (by simp) o q, a2.keep fun o q => k (N + 1) (by simp) o q⟩
  · intro X hP hw hK hc i pins s σ H I hn st hg
    subst hP hw hK
    obtain ⟨hz, hTI, hTO, a1, a2⟩ := st
    obtain ⟨xs, ys, x, y, hqx, hqy, hx, hy⟩ := hg
    obtain ⟨its, rv, p, _⟩ := I.src hqx
    obtain ⟨its2, rv2, p2, _⟩ := I.src hqy
    have l1 : i < its.toArray.size := by
      have := (List.getElem?_eq_some_iff.mp hx).1
      rw [List.size_toArray, ← rv.length]; exact this
    have l2 : i < its2.toArray.size := by
      have := (List.getElem?_eq_some_iff.mp hy).1
      rw [List.size_toArray, ← rv2.length]; exact this
    refine ⟨_, _, _, _, _, WalksT.zipD2 Sp (src_draws (A := X.A.in1) (I.ok.hd hc) N n1 its.toArray) (src_draws (A := X.A.in1) (I.ok.hd hc) (N + 1) n2 its2.toArray), by omega, ⟨hz, hTI, hTO, ⟨a1, p⟩, ⟨a2, p2⟩⟩, fun j h' q => ⟨q.1, q.2.1, q.2.2.1, q.2.2.2.1.1, q.2.2.2.2.1⟩, fun vals hv => ?_⟩
    obtain ⟨x1, x2, q1, q2, rfl⟩ := hv
    obtain ⟨z1, e1, r1⟩ := vals_at rv q1
    obtain ⟨z2, e2, r2⟩ := vals_at rv2 q2
    exact ⟨[z1, z2], .cons r1 (.cons r2 .nil), by show 2 ≤ sizeLine; decide, fun T hT => ⟨T, z1, z2, rfl, hT, rfl, fun l hl => by rw [I.src_inj hl hqx]; exact e1, fun l hl => by rw [I.src_inj hl hqy]; exact e2⟩⟩
  · intro X hP hw hK hc i pins s σ H I hn st hg
    subst hP hw hK
    obtain ⟨hz, hTI, hTO, a1, a2⟩ := st
    obtain ⟨xs, ys, hqx, hqy, hi⟩ := hg
    obtain ⟨its, rv, p, _⟩ := I.src hqx
    obtain ⟨its2, rv2, p2, _⟩ := I.src hqy
    have e : i = min its.toArray.size its2.toArray.size := by
      rw [List.size_toArray, List.size_toArray, ← rv.length, ← rv2.length]; exact hi
    have W := WalksT.zipD2 (prog := X.prog) (w := X.w) (A := X.A) Sp (src_draws (A := X.A.in1) (I.ok.hd hc) N n1 its.toArray) (src_draws (A := X.A.in1) (I.ok.hd hc) (N + 1) n2 its2.toArray)
    rw [← e] at W
    exact ⟨_, _, _, _, W, ⟨hz, hTI, hTO, ⟨a1, p⟩, ⟨a2, p2⟩⟩⟩
  · intro A i s Q E st h
    exact wpAny_pyIter_zip st.1 h
/-! ### zip of three -/
def Itz3 (K : PySem.W.Frag) (S1 S2 S3 : Src) : It :=
  ⟨fun i H => ∃ (xs ys us : List V) (x y u : V), SqS K H S1 xs ∧ SqS K H S2 ys ∧ SqS K H S3 us ∧ xs[i]? = some x ∧ ys[i]? = some y ∧ us[i]? = some u,
    fun i H v H' => ∃ T x y u, v = .ref T ∧ H T = none ∧ H' = upd H T (.tup [x, y, u]) ∧ (∀ xs, SqS K H S1 xs → xs[i]? = some x) ∧ (∀ ys, SqS K H S2 ys → ys[i]? = some y) ∧ ∀ us, SqS K H S3 us → us[i]? = some u,
    fun i H => ∃ xs ys us : List V, SqS K H S1 xs ∧ SqS K H S2 ys ∧ SqS K H S3 us ∧ i = min (min xs.length ys.length) us.length⟩
theorem turn_zip3 {P : Program} {w : World} {K : PySem.W.Frag} {elts : List Expr} {kk : Nat} {tpos : Pos} {S1 S2 S3 : Src} {N : Nat} (h1 : S1.2 < N) (h2 : S2.2 < N) (h3 : S3.2 < N) :
    Turn P w K (.Tuple elts kk tpos) (Itz3 K S1 S2 S3) [N + 5, N + 3, N + 4, N, N + 1, N + 2] (N + 5) (fun i h => IsZip h (N + 5) (N + 3) (N + 4) .none ∧ IsTupOf3 h (N + 3) (.ref N) (.ref (N + 1)) (.ref (N + 2)) ∧ (∃ a1 a2 a3, IsTupOf3 h (N + 4) a1 a2 a3) ∧ ItS h N S1 i ∧ ItS h (N + 1) S2 i ∧ ItS h (N + 2) S3 i) := by
  have Sp : ZipSep3 (N + 5) (N + 3) (N + 4) N (N + 1) (N + 2) [N, S1.2] [N + 1, S2.2] [N + 2, S3.2] := zip_sep3 (fp1 := [S1.2]) (fp2 := [S2.2]) (fp3 := [S3.2]) (fun b hb => by rw [List.mem_singleton.mp hb]; exact h1) (fun b hb => by rw [List.mem_singleton.mp hb]; exact h2) (fun b hb => by rw [List.mem_singleton.mp hb]; exact h3)
  have n1 : S1.2 ≠ N := Nat.ne_of_lt h1
  have n2 : S2.2 ≠ N + 1 := Nat.ne_of_lt (Nat.lt_succ_of_lt h2)
  have n3 : S3.2 ≠ N + 2 := Nat.ne_of_lt (Nat.lt_succ_of_lt (Nat.lt_succ_of_lt h3))
  refine turn_T (wr := [N + 5, N + 4, N, N + 1, N + 2]) (by simp) (fun b hb => by
      have e : b = N + 5 ∨ b = N + 4 ∨ b = N ∨ b = N + 1 ∨ b = N + 2 := by simpa using hb
      rcases e with e | e | e | e | e <;> rw [e] <;> simp) ?_ ?_ ?_ ?_ ?_
  · intro i h st b hb
    obtain ⟨hz, hTI, ⟨x, y, u, hTO⟩, a1, a2, a3⟩ := st
    have e : b = N + 5 ∨ b = N + 3 ∨ b = N + 4 ∨ b = N ∨ b = N + 1 ∨ b = N + 2 := by simpa using hb
    rcases e with e | e | e | e | e | e
    · rw [e]; exact ⟨_, hz, fun v q => nomatch q⟩
    · rw [e]; exact ⟨_, hTI, fun v q => nomatch q⟩
    · rw [e]; exact ⟨_, hTO, fun v q => nomatch q⟩
    · rw [e]; exact a1.obj
    · rw [e]; exact a2.obj
    · rw [e]; exact a3.obj
  · intro i h h' st k
    obtain ⟨hz, hTI, ⟨x, y, u, hTO⟩, a1, a2, a3⟩ := st
    exact ⟨k _ (by simp) _ hz, k _ (by simp) _ hTI, ⟨x, y, u, k _ (by simp) _ hTO⟩, a1.keep fun o q => k N (by simp) o q, a2.keep fun o q => k (N + 1) (by simp) o q, a3.keep fun o q => k (N + 2) (by simp) o q⟩
  · intro X hP hw hK hc i pins s σ H I hn st hg
    subst hP hw hK
    obtain ⟨hz, hTI, hTO, a1, a2, a3⟩ := st
    obtain ⟨xs, ys, us, x, y, u, hqx, hqy, hqu, hx, hy, hu⟩ := hg
    obtain ⟨its, rv, p, _⟩ := I.src hqx
    obtain ⟨its2, rv2, p2, _⟩ := I.src hqy
    obtain ⟨its3, rv3, p3, _⟩ := I.src hqu
    have l1 : i < its.toArray.size := by
      have := (List.getElem?_eq_some_iff.mp hx).1
      rw [List.size_toArray, ← rv.length]; exact this
    have l2 : i < its2.toArray.size := by
      have := (List.getElem?_eq_some_iff.mp hy).1
      rw [List.size_toArray, ← rv2.length]; exact this
    have l3 : i < its3.toArray.size := by
      have := (List.getElem?_eq_some_iff.mp hu).1
      rw [List.size_toArray, ← rv3.length]; exact this
    refine ⟨_, _, _, _, _, WalksT.zipD3 Sp (src_draws (A := X.A.in1) (I.ok.hd hc) N n1 its.toArray) (src_draws (A := X.A.in1) (I.ok.hd hc) (N + 1) n2 its2.toArray) (src_draws (A := X.A.in1) (I.ok.hd hc) (N + 2) n3 its3.toArray), by omega, ⟨hz, hTI, hTO, ⟨a1, p⟩, ⟨a2, p2⟩, ⟨a3, p3⟩⟩, fun j h' q => ⟨q.1, q.2.1, q.2.2.1, q.2.2.2.1.1, q.2.2.2.2.1.1, q.2.2.2.2.2.1⟩, fun vals hv => ?_⟩
    obtain ⟨x1, x2, x3, q1, q2, q3, rfl⟩ := hv
    obtain ⟨z1, e1, r1⟩ := vals_at rv q1
    obtain ⟨z2, e2, r2⟩ := vals_at rv2 q2
    obtain ⟨z3, e3, r3⟩ := vals_at rv3 q3
    exact ⟨[z1, z2, z3], .cons r1 (.cons r2 (.cons r3 .nil)), by show 3 ≤ sizeLine; decide, fun T hT => ⟨T, z1, z2, z3, rfl, hT, rfl, fun l hl => by rw [I.src_inj hl hqx]; exact e1, fun l hl => by rw [I.src_inj hl hqy]; exact e2, fun l hl => by rw [I.src_inj hl hqu]; exact e3⟩⟩
  · intro X hP hw hK hc i pins s σ H I hn st hg
    subst hP hw hK
    obtain ⟨hz, hTI, hTO, a1, a2, a3⟩ := st
    obtain ⟨xs, ys, us, hqx, hqy, hqu, hi⟩ := hg
    obtain ⟨its, rv, p, _⟩ := I.src hqx
    obtain ⟨its2, rv2, p2, _⟩ := I.src hqy
    obtain ⟨its3, rv3, p3, _⟩ := I.src hqu
    have e : i = min (min its.toArray.size its2.toArray.size) its3.toArray.size := by
      rw [List.size_toArray, List.size_toArray, List.size_toArray, ← rv.length, ← rv2.length, ← rv3.length]; exact hi
    have W := WalksT.zipD3 (prog := X.prog) (w := X.w) (A := X.A) Sp (src_draws (A := X.A.in1) (I.ok.hd hc) N n1 its.toArray) (src_draws (A := X.A.in1) (I.ok.hd hc) (N + 1) n2 its2.toArray) (src_draws (A := X.A.in1) (I.ok.hd hc) (N + 2) n3 its3.toArray)
    rw [← e] at W
    exact ⟨_, _, _, _, W, ⟨hz, hTI, hTO, ⟨a1, p⟩, ⟨a2, p2⟩, ⟨a3, p3⟩⟩⟩
  · intro A i s Q E st h
    exact wpAny_pyIter_zip st.1 h
/-! ### enumerate -/
def Ite1 (K : PySem.W.Frag) (S : Src) : It :=
  ⟨fun i H => ∃ (xs : List V) (x : V), SqS K H S xs ∧ xs[i]? = some x,
    fun i H v H' => ∃ T x, v = .ref T ∧ H T = none ∧ H' = upd H T (.tup [.int (i : Nat), x]) ∧ ∀ xs, SqS K H S xs → xs[i]? = some x,
    fun i H => ∃ xs : List V, SqS K H S xs ∧ i = xs.length⟩
theorem turn_enum1 {P : Program} {w : World} {K : PySem.W.Frag} {elts : List Expr} {kk : Nat} {tpos : Pos} {S : Src} {N : Nat} (h1 : S.2 < N) :
    Turn P w K (.Tuple elts kk tpos) (Ite1 K S) [N + 1, N] (N + 1) (fun i h => (∃ old, IsEnum h (N + 1) N (0 + (i : Int)) old) ∧ ItS h N S i) := by
  have n1 : S.2 ≠ N := Nat.ne_of_lt h1
  have nef : N + 1 ∉ [N, S.2] := by
    intro hb
    have e : N + 1 = N ∨ N + 1 = S.2 := by simpa using hb
    rcases e with e | e
    · exact absurd e (Nat.succ_ne_self N)
    · rw [← e] at h1
      exact absurd h1 (Nat.not_lt.mpr (Nat.le_succ N))
  refine turn_T (wr := [N + 1, N]) (by simp) (fun b hb => hb) ?_ ?_ ?_ ?_ ?_
  · intro i h st b hb
    obtain ⟨⟨old, hz⟩, a1⟩ := st
    have e : b = N + 1 ∨ b = N := by simpa using hb
    rcases e with e | e
    · rw [e]; exact ⟨_, hz, fun v q => nomatch q⟩
    · rw [e]; exact a1.obj
  · intro i h h' st k
    obtain ⟨⟨old, hz⟩, a1⟩ := st
    exact ⟨⟨old, k _ (by simp) _ hz⟩, a1.keep fun o q => k N (by simp) o q⟩
  · intro X hP hw hK hc i pins s σ H I hn st hg
    subst hP hw hK
    obtain ⟨hz, a1⟩ := st
    obtain ⟨xs, x, hqx, hx⟩ := hg
    obtain ⟨its, rv, p, _⟩ := I.src hqx
    have l1 : i < its.toArray.size := by
      have := (List.getElem?_eq_some_iff.mp hx).1
      rw [List.size_toArray, ← rv.length]; exact this
    refine ⟨_, _, _, _, _, WalksT.enumFrom 0 (src_draws (A := X.A.in1) (I.ok.hd hc) N n1 its.toArray) (N + 1) (Nat.succ_ne_self N) nef (by simp), l1, ⟨hz, ⟨a1, p⟩⟩, fun j h' q => ⟨q.1, q.2.1⟩, fun vals hv => ?_⟩
    obtain ⟨t, x1, q1, rfl⟩ := hv
    obtain ⟨z1, e1, r1⟩ := vals_at rv q1
    exact ⟨[.int (i : Nat), z1], .cons ⟨t, by rw [Int.zero_add]⟩ (.cons r1 .nil), by show 2 ≤ sizeLine; decide, fun T hT => ⟨T, z1, rfl, hT, rfl, fun l hl => by rw [I.src_inj hl hqx]; exact e1⟩⟩
  · intro X hP hw hK hc i pins s σ H I hn st hg
    subst hP hw hK
    obtain ⟨hz, a1⟩ := st
    obtain ⟨xs, hqx, hi⟩ := hg
    obtain ⟨its, rv, p, _⟩ := I.src hqx
    have e : i = its.toArray.size := by
      rw [List.size_toArray, ← rv.length]; exact hi
    have W := WalksT.enumFrom (prog := X.prog) (w := X.w) (A := X.A) 0 (src_draws (A := X.A.in1) (I.ok.hd hc) N n1 its.toArray) (N + 1) (Nat.succ_ne_self N) nef (by simp)
    rw [← e] at W
    exact ⟨_, _, _, _, W, ⟨hz, ⟨a1, p⟩⟩⟩
  · intro A i s Q E st h
    obtain ⟨⟨old, hz⟩, _⟩ := st
    exact wpAny_pyIter_enum hz h
theorem meets_enum1 {v : Value} {o : Obj} {H : Heap → Prop} (B : Begins v o H) :
    Meets (Builtin.«enumerate.__new__» ⟨[.type "enumerate", v], []⟩) (fun _ R s => H s.heap ∧
      R (.ok (.ret (.ref (s.heap.push o).objs.size))) { s with heap := (s.heap.push o).push { cls := .type "enumerate", data := .fields #[.none, .bool false, .ref s.heap.objs.size, rawInt 0, .none, .none] } }) :=
  .of_wp fun prog w A R s h => by
    obtain ⟨hp, g, d, tk, os⟩ := s; obtain ⟨h1, h⟩ := h
    have hsub := sub_enumerate
    have q1 : ∀ {A' : Around} {E : Value → Shared → Prop} {Q : Value → Shared → Prop}, Q (.ref hp.objs.size) ⟨hp.push o, g, d, tk, os⟩ → wpAny (model prog w) A' (pyIter v) Q E ⟨hp, g, d, tk, os⟩ :=
      fun q => B.iter prog w _ _ ⟨hp, g, d, tk, os⟩ _ h1 q
    wp_walk using q1
    refine wpAny_stack_any fun st => wpAny_pure ?_
    split
    · rename_i c _ _ _ _ _
      cases (c == Value.type "enumerate")
      · wp_walk using q1
        exact ⟨_, rfl, h⟩
      · wp_walk using q1
        exact ⟨_, rfl, h⟩
    · wp_walk using q1
      exact ⟨_, rfl, h⟩
theorem enum1_begins {prog : Program} {w : World} {A : Around} {E : Value → Shared → Prop} {s : Shared} {v : Value} {o : Obj} {H : Heap → Prop} {Q : Value → Shared → Prop} (B : Begins v o H) (h1 : H s.heap)
    (h : ∀ h', IsEnum h' (s.heap.objs.size + 1) s.heap.objs.size 0 .none → h'.get? s.heap.objs.size = some o → h'.objs.size = s.heap.objs.size + 2 →
      (∀ b o, s.heap.get? b = some o → h'.get? b = some o) → Q (.ref (s.heap.objs.size + 1)) { s with heap := h' }) :
    wpAny (model prog w) A (call (.type "enumerate") [v]) Q E s := by
  refine callType_new F.called_enumerate (by decide) (F.typeCall_enumerate_1 _) (F.newCall_enumerate_1 _) (fun obj => F.args_object_init_2 obj _) F.entry_enumerate_new
    (meets_enum1 B) ⟨h1, ?_⟩
  have hz : (s.heap.push o).objs.size = s.heap.objs.size + 1 := Heap.size_push ..
  show _ ∧ _
  rw [hz]
  have he : IsEnum ((s.heap.push o).push { cls := .type "enumerate", data := .fields #[.none, .bool false, .ref s.heap.objs.size, rawInt 0, .none, .none] }) (s.heap.objs.size + 1) s.heap.objs.size 0 .none := by
    have := Heap.get?_push_size (s.heap.push o) (o := { cls := .type "enumerate", data := .fields #[.none, .bool false, .ref s.heap.objs.size, rawInt 0, .none, .none] }) rfl
    rw [hz] at this; exact this
  refine ⟨⟨_, he, rfl⟩, h _ he (Heap.get?_push_of_some _ (Heap.get?_push_size _ B.free)) (by rw [Heap.size_push, hz]) fun b o x => Heap.get?_push_of_some _ (Heap.get?_push_of_some _ x)⟩
/-! ### they come -/
section
variable {X : Cx} {tg e e2 e3 : Expr} {ta : TA} {p pos tpos : Pos} {elts : List Expr} {kk : Nat}
theorem _root_.L2.Inv.fpNew {pins : List (Addr × Obj)} {σ : L2.St} {H : Hp} {s : Shared} {h' : Heap} (I : Inv X pins σ H s) (fp : List Addr) (hfp : ∀ b ∈ fp, s.heap.objs.size ≤ b) : ∀ b ∈ fp, FpOk X pins H b := fun b hb => I.fpOk (hfp b hb) (I.hok.fresh (hfp b hb))
def iZip2 (K : PySem.W.Frag) (ta : TA) : TI := fun σ H R => ta σ H fun vs H1 => ∃ (S1 S2 : Src) (xs ys : List V), vs = [.ref S1.2, .ref S2.2] ∧ SqS K H1 S1 xs ∧ SqS K H1 S2 ys ∧ R (Itz2 K S1 S2) H1
theorem pi_zip2 (hg : Gl X "zip") (hm : X.mg "zip" = none) (ha : PA X [e, e2] ta)
    (hs : starEach [e, e2] X.env = (false, eval e X.env) :: starEach [e2] X.env := by rfl) (hpl : (backTo pos (starEach [e2] X.env)).any (·.1) = false := by rfl) :
    PI X (.Tuple elts kk tpos) (.Call (.Name "zip" p) [e, e2] [] pos) (iZip2 X.K ta) := by
  refine ⟨fun pins s σ H R I h => ?_⟩
  refine Call_ (ld_blt I hg hm PyProof.Rows.boot_zip (PyProof.Rows.callWith_type1 (thn (ha.run pos pins s σ H _ I h) fun us s1 ⟨vs, H1, I1, r1, q1⟩ => ?_) hs hpl))
  obtain ⟨S1, S2, xs, ys, ex, hqx, hqy, q⟩ := q1
  subst ex
  cases r1 with
  | cons r rr =>
    cases rr with
    | cons r' rr =>
      cases rr
      cases r
      cases r'
      obtain ⟨its, rv, p1, _⟩ := I1.src hqx
      obtain ⟨its2, rv2, p2, _⟩ := I1.src hqy
      refine zip_begins2 (src_begins S1 its.toArray) (src_begins S2 its2.toArray) p1 p2 fun h' hz hTI hTO h1 h2 hsz hk => wpAny_pyIter_zip hz ?_
      have I2 : Inv X pins σ H1 { s1 with heap := h' } := I1.kept (t' := s1.toks) hk
      refine ⟨s1.heap.objs.size + 4, [s1.heap.objs.size + 4, s1.heap.objs.size + 2, s1.heap.objs.size + 3, s1.heap.objs.size, s1.heap.objs.size + 1], _, _, H1, rfl, I2, turn_zip2 p1.lt p2.lt, ⟨hz, hTI, ⟨_, _, hTO⟩, itS_begin h1, itS_begin h2⟩, I1.fpNew (h' := h') _ fun c hcm => ?_, q⟩
      have e' : c = s1.heap.objs.size + 4 ∨ c = s1.heap.objs.size + 2 ∨ c = s1.heap.objs.size + 3 ∨ c = s1.heap.objs.size ∨ c = s1.heap.objs.size + 1 := by simpa using hcm
      rcases e' with z | z | z | z | z
      · rw [z]; exact Nat.le_add_right _ _
      · rw [z]; exact Nat.le_add_right _ _
      · rw [z]; exact Nat.le_add_right _ _
      · rw [z]; exact Nat.le_refl _
      · rw [z]; exact Nat.le_add_right _ _
def iZip3 (K : PySem.W.Frag) (ta : TA) : TI := fun σ H R => ta σ H fun vs H1 => ∃ (S1 S2 S3 : Src) (xs ys us : List V), vs = [.ref S1.2, .ref S2.2, .ref S3.2] ∧ SqS K H1 S1 xs ∧ SqS K H1 S2 ys ∧ SqS K H1 S3 us ∧ R (Itz3 K S1 S2 S3) H1
theorem pi_zip3 (hg : Gl X "zip") (hm : X.mg "zip" = none) (ha : PA X [e, e2, e3] ta)
    (hs : starEach [e, e2, e3] X.env = (false, eval e X.env) :: starEach [e2, e3] X.env := by rfl) (hpl : (backTo pos (starEach [e2, e3] X.env)).any (·.1) = false := by rfl) :
    PI X (.Tuple elts kk tpos) (.Call (.Name "zip" p) [e, e2, e3] [] pos) (iZip3 X.K ta) := by
  refine ⟨fun pins s σ H R I h => ?_⟩
  refine Call_ (ld_blt I hg hm PyProof.Rows.boot_zip (PyProof.Rows.callWith_type1 (thn (ha.run pos pins s σ H _ I h) fun us s1 ⟨vs, H1, I1, r1, q1⟩ => ?_) hs hpl))
  obtain ⟨S1, S2, S3, xs, ys, zs, ex, hqx, hqy, hqz, q⟩ := q1
  subst ex
  cases r1 with
  | cons r rr =>
    cases rr with
    | cons r' rr =>
      cases rr with
      | cons r'' rr =>
        cases rr
        cases r
        cases r'
        cases r''
        obtain ⟨its, rv, p1, _⟩ := I1.src hqx
        obtain ⟨its2, rv2, p2, _⟩ := I1.src hqy
        obtain ⟨its3, rv3, p3, _⟩ := I1.src hqz
        refine zip_begins3 (src_begins S1 its.toArray) (src_begins S2 its2.toArray) (src_begins S3 its3.toArray) p1 p2 p3 fun h' hz hTI hTO h1 h2 h3 hsz hk => wpAny_pyIter_zip hz ?_
        have I2 : Inv X pins σ H1 { s1 with heap := h' } := I1.kept (t' := s1.toks) hk
        refine ⟨s1.heap.objs.size + 5, [s1.heap.objs.size + 5, s1.heap.objs.size + 3, s1.heap.objs.size + 4, s1.heap.objs.size, s1.heap.objs.size + 1, s1.heap.objs.size + 2], _, _, H1, rfl, I2, turn_zip3 p1.lt p2.lt p3.lt, ⟨hz, hTI, ⟨_, _, _, hTO⟩, itS_begin h1, itS_begin h2, itS_begin h3⟩, I1.fpNew (h' := h') _ fun c hcm => ?_, q⟩
        have e' : c = s1.heap.objs.size + 5 ∨ c = s1.heap.objs.size + 3 ∨ c = s1.heap.objs.size + 4 ∨ c = s1.heap.objs.size ∨ c = s1.heap.objs.size + 1 ∨ c = s1.heap.objs.size + 2 := by simpa using hcm
        rcases e' with z | z | z | z | z | z
        · rw [z]; exact Nat.le_add_right _ _
        · rw [z]; exact Nat.le_add_right _ _
        · rw [z]; exact Nat.le_add_right _ _
        · rw [z]; exact Nat.le_refl _
        · rw [z]; exact Nat.le_add_right _ _
        · rw [z]; exact Nat.le_add_right _ _
def iEnum1 (K : PySem.W.Frag) (ta : TA) : TI := fun σ H R => ta σ H fun vs H1 => ∃ (S : Src) (xs : List V), vs = [.ref S.2] ∧ SqS K H1 S xs ∧ R (Ite1 K S) H1
theorem pi_enum1 (hg : Gl X "enumerate") (hm : X.mg "enumerate" = none) (ha : PA X [e] ta) (hs : starEach [e] X.env = [(false, eval e X.env)] := by rfl) :
    PI X (.Tuple elts kk tpos) (.Call (.Name "enumerate" p) [e] [] pos) (iEnum1 X.K ta) := by
  refine ⟨fun pins s σ H R I h => ?_⟩
  refine Call_ (ld_blt I hg hm boot_enumerate (PyProof.Rows.callWith_type1 (thn (ha.run pos pins s σ H _ I h) fun us s1 ⟨vs, H1, I1, r1, q1⟩ => ?_) hs rfl))
  obtain ⟨S, xs, ex, hq, q⟩ := q1
  subst ex
  cases r1 with
  | cons r rr =>
    cases rr
    cases r
    obtain ⟨its, rv, p', hz⟩ := I1.src hq
    refine enum1_begins (src_begins S its.toArray) p' fun h' he hit hsz hk => wpAny_pyIter_enum he ?_
    have I2 : Inv X pins σ H1 { s1 with heap := h' } := I1.kept (t' := s1.toks) hk
    refine ⟨s1.heap.objs.size + 1, [s1.heap.objs.size + 1, s1.heap.objs.size], _, _, H1, rfl, I2, turn_enum1 p'.lt, ⟨⟨.none, he⟩, itS_begin hit⟩, I1.fpNew (h' := h') _ fun b hb => ?_, q⟩
    have e' : b = s1.heap.objs.size + 1 ∨ b = s1.heap.objs.size := by simpa using hb
    rcases e' with z | z
    · rw [z]; exact Nat.le_add_right _ _
    · rw [z]; exact Nat.le_refl _
end
end DL

namespace DL
open PySem PySem.Spec PyProof.Rows L2
/-! ### what is walked -/
structure IsW (K : PySem.W.Frag) (rc : Rc) (m : Bool) (H0 Hs H : Hp) (J : It) (ds : List D) : Prop where
  go : ∀ i Hs2 H2, Same Hs Hs2 → Same Hs2 H2 → (Kp rc H H2 ∨ m = true ∧ Kp rc H0 H2) → i < ds.length → J.go i H2
  stop : ∀ Hs2 H2, Same Hs Hs2 → Same Hs2 H2 → (Kp rc H H2 ∨ m = true ∧ Kp rc H0 H2) → J.stop ds.length H2
  yld : ∀ i Hs2 H2 x H3, Same Hs Hs2 → Same Hs2 H2 → (Kp rc H H2 ∨ m = true ∧ Kp rc H0 H2) → i < ds.length → J.yld i H2 x H3 → ∃ Hs3 d, Ext none Hs2 H2 Hs3 H3 ∧ ds[i]? = some d ∧ Rp K Hs3 x d
def SemI (K : PySem.W.Frag) (rc : Rc) (m : Bool) (wi : TI) (f : MM (List D)) : Prop :=
  ∀ Hs0 H0 σ Hs H ρ, Rel K rc Hs0 H0 σ Hs H ρ → ∀ ds r, f ρ = some (ds, r) → ∀ R : It → Hp → Prop, (∀ J Hs' H', Ext rc Hs H Hs' H' → RowAt K rc H' r → IsW K rc m H0 Hs' H' J ds → R J H') → wi σ H R
structure DI (X : Cx) (rc : Rc) (m : Bool) (tg e : Expr) (wi : TI) (f : MM (List D)) : Prop where
  pi : PI X tg e wi
  se : SemI X.K rc m wi f
section
variable {K : PySem.W.Frag} {rc : Rc} {m : Bool} {H0 Hs H Hs2 H2 : Hp} {v : V} {d : D}
theorem Bst.at (h : Bst K rc m H0 Hs H v d) (g : Same Hs Hs2) (s : Same Hs2 H2) (k : Kp rc H H2 ∨ m = true ∧ Kp rc H0 H2) : Bp K Hs2 H2 v d := by
  rcases k with k | ⟨hm, k⟩
  · exact h.st _ _ g s k
  · exact h.st0 hm _ _ g s k
/-- a source that stands -/
theorem Bst.src (h : Bst K rc m H0 Hs H v d) {ds : List D} (hd : dItems d = some ds) : ∃ S : Src, v = .ref S.2 ∧ (∀ Hs2 H2, Same Hs Hs2 → Same Hs2 H2 → (Kp rc H H2 ∨ m = true ∧ Kp rc H0 H2) → ∃ xs, SqS K H2 S xs ∧ RpAll K Hs2 xs ds) := by
  cases d with
  | list es =>
    cases hd
    have hb := h.b
    cases hb with
    | sh hb =>
      obtain ⟨a, xs, rfl, _, _⟩ := hb.lst_inv
      refine ⟨(true, a), rfl, fun Hs2 H2 g s k => ?_⟩
      obtain ⟨a', ys, e, h1, h2⟩ := (h.at g s k).lst_inv s
      cases e
      exact ⟨ys, SqL.of h1, h2⟩
    | @lst a xs _ h1 h2 =>
      refine ⟨(true, a), rfl, fun Hs2 H2 g s k => ?_⟩
      obtain ⟨a', ys, e, h1, h2⟩ := (h.at g s k).lst_inv s
      cases e
      exact ⟨ys, SqL.of h1, h2⟩
  | tuple es =>
    cases hd
    obtain ⟨a, xs, rfl, _, _⟩ := h.b.tup_inv
    refine ⟨(false, a), rfl, fun Hs2 H2 g s k => ?_⟩
    obtain ⟨a', ys, e, h1, h2⟩ := (h.at g s k).tup_inv
    cases e
    exact ⟨ys, seqT_same s h1, h2⟩
  | _ => cases hd
theorem SqS.list {a : Addr} {xs : List V} (h : SqS K H (true, a) xs) : SqL K H a xs := h
theorem SqS.tup {a : Addr} {xs : List V} (h : SqS K H (false, a) xs) : SqT K H a xs := h
end
section
variable {X : Cx} {rc : Rc} {m m' m2 : Bool} {e e2 e3 tg : Expr} {pos p tpos : Pos} {te te2 te3 : TE} {f f2 f3 : MM D}
/-- a list or a tuple -/
def mItems (f : MM D) : MM (List D) := mBind f fun d => mO (dItems d)
def iSeq (K : PySem.W.Frag) (te : TE) : TI := fun σ H R => te σ H fun x H1 => ∃ S : Src, x = .ref S.2 ∧ (∃ xs, SqS K H1 S xs) ∧ R (if S.1 = true then Itl K S.2 else Itt K S.2) H1
theorem pi_seq (he : PE X e te) : PI X tg e (iSeq X.K te) := by
  refine ⟨fun pins s σ H R I h => ?_⟩
  refine thn (he.run pins s σ H _ I h) fun v s1 ⟨x, H1, I1, r1, q1⟩ => ?_
  obtain ⟨⟨k, a⟩, rfl, ⟨xs, hq⟩, q⟩ := q1
  obtain rfl : v = Value.ref a := r1
  cases k with
  | true =>
    have hq : SqL X.K H1 a xs := hq
    obtain ⟨its, rv, pl, hz⟩ := I1.list hq
    refine wpAny_pyIter_list pl.isList ?_
    refine ⟨s1.heap.objs.size, [s1.heap.objs.size], _, _, H1, rfl, I1.kept (t' := s1.toks) fun b o e => Heap.get?_push_of_some _ e, turn_list a _, ⟨_, Heap.get?_push_size _ rfl, rfl, rfl⟩, I1.fpNew (h' := s1.heap) _ fun b hb => ?_, q⟩
    rw [List.mem_singleton.mp hb]; exact Nat.le_refl _
  | false =>
    have hq : SqT X.K H1 a xs := hq
    obtain ⟨its, rv, pl, hz⟩ := I1.tuple hq
    refine wpAny_pyIter_tuple (show s1.heap.IsTuple a its.toArray from pl) ?_
    refine ⟨s1.heap.objs.size, [s1.heap.objs.size], _, _, H1, rfl, I1.kept (t' := s1.toks) fun b o e => Heap.get?_push_of_some _ e, turn_tuple a _, ⟨_, Heap.get?_push_size _ rfl, rfl, rfl⟩, I1.fpNew (h' := s1.heap) _ fun b hb => ?_, q⟩
    rw [List.mem_singleton.mp hb]; exact Nat.le_refl _
theorem getAt {ds : List D} {i : Nat} (h : i < ds.length) : ∃ d, ds[i]? = some d := ⟨_, List.getElem?_eq_getElem h⟩
theorem di_seq (h : DB X rc m e te f) : DI X rc m tg e (iSeq X.K te) (mItems f) := ⟨pi_seq h.pe, fun Hs0 H0 σ Hs H ρ R ds r hf Q q => by
  obtain ⟨d, r1, h1, h2⟩ := mBind_some hf
  obtain ⟨h3, rfl⟩ := mO_some h2
  refine h.se Hs0 H0 σ Hs H ρ R d _ h1 _ fun x Hs1 H1 e1 w1 p1 => ?_
  obtain ⟨⟨k, a⟩, rfl, src⟩ := p1.src h3
  obtain ⟨xs, hx, hr⟩ := src Hs1 H1 (Same.refl _) e1.s (.inl fun b o _ z => z)
  refine ⟨(k, a), rfl, ⟨xs, hx⟩, q _ Hs1 H1 e1 w1 ?_⟩
  cases k with
  | true =>
    refine ⟨fun i Hs2 H2 g s k hi => ?_, fun Hs2 H2 g s k => ?_, fun i Hs2 H2 x H3 g s k hi hy => ?_⟩
    · obtain ⟨ys, hy, hr2⟩ := src Hs2 H2 g s k
      obtain ⟨d', hd⟩ := getAt hi
      obtain ⟨v, hv, _⟩ := hr2.get hd
      exact ⟨ys, v, hy, hv⟩
    · obtain ⟨ys, hy, hr2⟩ := src Hs2 H2 g s k
      exact ⟨ys, hy, by rw [hr2.length]; exact Nat.le_refl _⟩
    · obtain ⟨ys, hq, hr2⟩ := src Hs2 H2 g s k
      obtain ⟨rfl, hy⟩ := hy
      obtain ⟨d', hd, hp⟩ := hr2.getV (hy ys hq)
      exact ⟨Hs2, d', .refl s, hd, hp⟩
  | false =>
    refine ⟨fun i Hs2 H2 g s k hi => ?_, fun Hs2 H2 g s k => ?_, fun i Hs2 H2 x H3 g s k hi hy => ?_⟩
    · obtain ⟨ys, hy, hr2⟩ := src Hs2 H2 g s k
      obtain ⟨d', hd⟩ := getAt hi
      obtain ⟨v, hv, _⟩ := hr2.get hd
      exact ⟨ys, v, hy, hv⟩
    · obtain ⟨ys, hy, hr2⟩ := src Hs2 H2 g s k
      exact ⟨ys, hy, by rw [hr2.length]; exact Nat.le_refl _⟩
    · obtain ⟨ys, hq, hr2⟩ := src Hs2 H2 g s k
      obtain ⟨rfl, hy⟩ := hy
      obtain ⟨d', hd, hp⟩ := hr2.getV (hy ys hq)
      exact ⟨Hs2, d', .refl s, hd, hp⟩⟩
/-- range(a, b), range(b) -/
def dRange (a b : D) : Option (List D) := match a, b with
  | .int lo, .int hi => if -1000000 ≤ lo ∧ lo ≤ 1000000 ∧ -1000000 ≤ hi ∧ hi ≤ 1000000 then some ((List.range (hi - lo).toNat).map fun (i : Nat) => PyData.int (lo + (i : Nat))) else none
  | _, _ => none
theorem isW_range {K : PySem.W.Frag} {H0 Hs H : Hp} {lo : Int} {n : Nat} : IsW K rc m H0 Hs H (Itr lo n) ((List.range n).map fun (i : Nat) => PyData.int (lo + (i : Nat))) := by
  have hl : ((List.range n).map fun (i : Nat) => PyData.int (lo + (i : Nat))).length = n := by rw [List.length_map, List.length_range]
  refine ⟨fun i Hs2 H2 g s k hi => by rw [hl] at hi; exact hi, fun Hs2 H2 g s k => by rw [hl]; exact Nat.le_refl n, fun i Hs2 H2 x H3 g s k hi hy => ?_⟩
  obtain ⟨rfl, rfl⟩ := hy
  rw [hl] at hi
  exact ⟨Hs2, .int (lo + (i : Nat)), .refl s, by rw [List.getElem?_map, List.getElem?_range hi]; rfl, .int _⟩
def mRange2 (f f2 : MM D) : MM (List D) := mBind f fun a => mBind f2 fun b => mO (dRange a b)
theorem di_range2 (hm : X.mg "range" = none) (ha : DE X rc e te f) (hb : DE X rc e2 te2 f2) (hg : Gl X "range" := by rfl)
    (hs : starEach [e, e2] X.env = [(false, eval e X.env), (false, eval e2 X.env)] := by rfl) (hs2 : starEach [e2] X.env = [(false, eval e2 X.env)] := by rfl) (hsa : starEach [e, e2] X.env = (false, eval e X.env) :: starEach [e2] X.env := by rfl) (hsb : starEach [e2] X.env = (false, eval e2 X.env) :: starEach [] X.env := by rfl) :
    DI X rc m tg (.Call (.Name "range" p) [e, e2] [] pos) (iRng2 (tCons te (tCons te2 tNil))) (mRange2 f f2) := ⟨pi_range2 hg hm (pa_cons ha.pe (pa_cons hb.pe pa_nil hsb) hsa) hs hs2, fun Hs0 H0 σ Hs H ρ R ds r hf Q q => by
  obtain ⟨a, r1, h1, h2⟩ := mBind_some hf
  obtain ⟨b, r2, h3, h4⟩ := mBind_some h2
  obtain ⟨h5, rfl⟩ := mO_some h4
  refine ha.se Hs0 H0 σ Hs H ρ R a r1 h1 _ fun x Hs1 H1 e1 w1 p1 => ?_
  refine hb.se Hs0 H0 σ Hs1 H1 (ρ.wr r1) (R.ext' e1 w1) b _ h3 _ fun y Hs2 H2 e2 w2 p2 => ?_
  cases a <;> cases b <;> try (cases h5)
  rename_i lo hi
  simp only [dRange] at h5
  by_cases hc : -1000000 ≤ lo ∧ lo ≤ 1000000 ∧ -1000000 ≤ hi ∧ hi ≤ 1000000
  · rw [if_pos hc] at h5
    cases h5
    refine ⟨lo, hi, by rw [p1.int_inv, p2.int_inv], by omega, ?_⟩
    exact q _ Hs2 H2 (e1.trans e2) w2 isW_range
  · rw [if_neg hc] at h5; cases h5⟩
def mRange1 (f : MM D) : MM (List D) := mBind f fun b => mO (dRange (.int 0) b)
theorem di_range1 (hm : X.mg "range" = none) (ha : DE X rc e te f) (hg : Gl X "range" := by rfl) (hs : starEach [e] X.env = [(false, eval e X.env)] := by rfl) (hsa : starEach [e] X.env = (false, eval e X.env) :: starEach [] X.env := by rfl) :
    DI X rc m tg (.Call (.Name "range" p) [e] [] pos) (iRng1 (tCons te tNil)) (mRange1 f) := ⟨pi_range1 hg hm (pa_cons ha.pe pa_nil hsa) hs, fun Hs0 H0 σ Hs H ρ R ds r hf Q q => by
  obtain ⟨a, r1, h1, h2⟩ := mBind_some hf
  obtain ⟨h5, rfl⟩ := mO_some h2
  refine ha.se Hs0 H0 σ Hs H ρ R a _ h1 _ fun x Hs1 H1 e1 w1 p1 => ?_
  cases a <;> try (cases h5)
  rename_i hi
  simp only [dRange] at h5
  by_cases hc : -1000000 ≤ (0 : Int) ∧ (0 : Int) ≤ 1000000 ∧ -1000000 ≤ hi ∧ hi ≤ 1000000
  · rw [if_pos hc] at h5
    cases h5
    refine ⟨hi, by rw [p1.int_inv], by omega, by omega, ?_⟩
    refine q _ Hs1 H1 e1 w1 ?_
    rw [Int.sub_zero]
    exact isW_range
  · rw [if_neg hc] at h5; cases h5⟩
/-- zip of two -/
def mZip2 (f f2 : MM D) : MM (List D) := mBind f fun a => mBind f2 fun b => mBind (mO (dItems a)) fun xs => mBind (mO (dItems b)) fun ys => mRet (List.zipWith (fun x y => PyData.tuple [x, y]) xs ys)
theorem Same.newIn {Hs H : Hp} {T : Addr} {o : HO} (s : Same Hs H) (n : H T = none) : Same Hs (upd Hs T o) := (Ext.new (rc := none) s n).g
theorem zw_get {xs ys : List D} {i : Nat} {x y : D} (h1 : xs[i]? = some x) (h2 : ys[i]? = some y) : (List.zipWith (fun x y => PyData.tuple [x, y]) xs ys)[i]? = some (.tuple [x, y]) := by
  rw [List.getElem?_zipWith, h1, h2]
theorem di_zip2 {elts : List Expr} {kk : Nat} (hm : X.mg "zip" = none) (ha : DB X rc m e te f) (hb : DB X rc m e2 te2 f2) (hg : Gl X "zip" := by rfl)
    (hs : starEach [e, e2] X.env = (false, eval e X.env) :: starEach [e2] X.env := by rfl) (hs2 : starEach [e2] X.env = (false, eval e2 X.env) :: starEach [] X.env := by rfl) (hpl : (backTo pos (starEach [e2] X.env)).any (·.1) = false := by rfl) :
    DI X rc m (.Tuple elts kk tpos) (.Call (.Name "zip" p) [e, e2] [] pos) (iZip2 X.K (tCons te (tCons te2 tNil))) (mZip2 f f2) := ⟨pi_zip2 hg hm (pa_cons ha.pe (pa_cons hb.pe pa_nil hs2) hs) hs hpl, fun Hs0 H0 σ Hs H ρ R ds r hf Q q => by
  obtain ⟨a, r1, h1, h2⟩ := mBind_some hf
  obtain ⟨b, r2, h3, h4⟩ := mBind_some h2
  obtain ⟨xs, r3, h5, h6⟩ := mBind_some h4
  obtain ⟨h7, rfl⟩ := mO_some h5
  obtain ⟨ys, r4, h8, h9⟩ := mBind_some h6
  obtain ⟨h10, rfl⟩ := mO_some h8
  cases h9
  refine ha.se Hs0 H0 σ Hs H ρ R a r1 h1 _ fun x Hs1 H1 e1 w1 p1 => ?_
  refine hb.se Hs0 H0 σ Hs1 H1 (ρ.wr r1) (R.ext' e1 w1) b _ h3 _ fun y Hs2 H2 e2 w2 p2 => ?_
  obtain ⟨S1, rfl, src1⟩ := (p1.ext e2).src h7
  obtain ⟨S2, rfl, src2⟩ := p2.src h10
  obtain ⟨vs1, a1, a2⟩ := src1 Hs2 H2 (Same.refl _) e2.s (.inl fun b o _ z => z)
  obtain ⟨vs2, b1, b2⟩ := src2 Hs2 H2 (Same.refl _) e2.s (.inl fun b o _ z => z)
  refine ⟨S1, S2, vs1, vs2, rfl, a1, b1, q _ Hs2 H2 (e1.trans e2) w2 ?_⟩
  have hl : (List.zipWith (fun x y => PyData.tuple [x, y]) xs ys).length = min xs.length ys.length := List.length_zipWith
  refine ⟨fun i Hs3 H3 g s k hi => ?_, fun Hs3 H3 g s k => ?_, fun i Hs3 H3 x H4 g s k hi hy => ?_⟩
  · obtain ⟨us, q1, q2⟩ := src1 Hs3 H3 g s k
    obtain ⟨ws, q3, q4⟩ := src2 Hs3 H3 g s k
    rw [hl] at hi
    obtain ⟨d1, hd1⟩ := getAt (ds := xs) (i := i) (by omega)
    obtain ⟨d2, hd2⟩ := getAt (ds := ys) (i := i) (by omega)
    obtain ⟨v1, hv1, _⟩ := q2.get hd1
    obtain ⟨v2, hv2, _⟩ := q4.get hd2
    exact ⟨us, ws, v1, v2, q1, q3, hv1, hv2⟩
  · obtain ⟨us, q1, q2⟩ := src1 Hs3 H3 g s k
    obtain ⟨ws, q3, q4⟩ := src2 Hs3 H3 g s k
    exact ⟨us, ws, q1, q3, by rw [hl, q2.length, q4.length]⟩
  · obtain ⟨us, q1, q2⟩ := src1 Hs3 H3 g s k
    obtain ⟨ws, q3, q4⟩ := src2 Hs3 H3 g s k
    obtain ⟨T, v1, v2, rfl, hT, rfl, y1, y2⟩ := hy
    obtain ⟨d1, hd1, hp1⟩ := q2.getV (y1 us q1)
    obtain ⟨d2, hd2, hp2⟩ := q4.getV (y2 ws q3)
    have hn := same_none s hT
    exact ⟨_, .tuple [d1, d2], .new s hT, zw_get hd1 hd2, .tup (.inl (.inl upd_same)) (RpAll.new hn (.cons hp1 (.cons hp2 .nil)))⟩⟩
/-- zip of three -/
def zip3 : List D → List D → List D → List D
  | x :: xs, y :: ys, z :: zs => .tuple [x, y, z] :: zip3 xs ys zs
  | _, _, _ => []
theorem zip3_len : ∀ (xs ys zs : List D), (zip3 xs ys zs).length = min (min xs.length ys.length) zs.length
  | [], _, _ => by simp [zip3]
  | _ :: _, [], _ => by simp [zip3]
  | _ :: _, _ :: _, [] => by simp [zip3]
  | x :: xs, y :: ys, z :: zs => by
    have := zip3_len xs ys zs
    simp only [zip3, List.length_cons, this]
    omega
theorem zip3_get : ∀ {xs ys zs : List D} {i : Nat} {x y z : D}, xs[i]? = some x → ys[i]? = some y → zs[i]? = some z → (zip3 xs ys zs)[i]? = some (.tuple [x, y, z])
  | [], _, _, _, _, _, _, h, _, _ => by simp at h
  | _ :: _, [], _, _, _, _, _, _, h, _ => by simp at h
  | _ :: _, _ :: _, [], _, _, _, _, _, _, h => by simp at h
  | x :: xs, y :: ys, z :: zs, 0, _, _, _, h1, h2, h3 => by
    simp at h1 h2 h3
    subst h1 h2 h3
    rfl
  | x :: xs, y :: ys, z :: zs, i + 1, _, _, _, h1, h2, h3 => by
    simp only [zip3, List.getElem?_cons_succ] at h1 h2 h3 ⊢
    exact zip3_get h1 h2 h3
def mZip3 (f f2 f3 : MM D) : MM (List D) := mBind f fun a => mBind f2 fun b => mBind f3 fun c => mBind (mO (dItems a)) fun xs => mBind (mO (dItems b)) fun ys => mBind (mO (dItems c)) fun zs => mRet (zip3 xs ys zs)
theorem di_zip3 {elts : List Expr} {kk : Nat} (hm : X.mg "zip" = none) (ha : DB X rc m e te f) (hb : DB X rc m e2 te2 f2) (hc : DB X rc m e3 te3 f3) (hg : Gl X "zip" := by rfl)
    (hs : starEach [e, e2, e3] X.env = (false, eval e X.env) :: starEach [e2, e3] X.env := by rfl) (hs2 : starEach [e2, e3] X.env = (false, eval e2 X.env) :: starEach [e3] X.env := by rfl) (hs3 : starEach [e3] X.env = (false, eval e3 X.env) :: starEach [] X.env := by rfl) (hpl : (backTo pos (starEach [e2, e3] X.env)).any (·.1) = false := by rfl) :
    DI X rc m (.Tuple elts kk tpos) (.Call (.Name "zip" p) [e, e2, e3] [] pos) (iZip3 X.K (tCons te (tCons te2 (tCons te3 tNil)))) (mZip3 f f2 f3) := ⟨pi_zip3 hg hm (pa_cons ha.pe (pa_cons hb.pe (pa_cons hc.pe pa_nil hs3) hs2) hs) hs hpl, fun Hs0 H0 σ Hs H ρ R ds r hf Q q => by
  obtain ⟨a, r1, h1, h2⟩ := mBind_some hf
  obtain ⟨b, r2, h3, h4⟩ := mBind_some h2
  obtain ⟨c, r3, h5, h6⟩ := mBind_some h4
  obtain ⟨xs, r4, h7, h8⟩ := mBind_some h6
  obtain ⟨h9, rfl⟩ := mO_some h7
  obtain ⟨ys, r5, h10, h11⟩ := mBind_some h8
  obtain ⟨h12, rfl⟩ := mO_some h10
  obtain ⟨zs, r6, h13, h14⟩ := mBind_some h11
  obtain ⟨h15, rfl⟩ := mO_some h13
  cases h14
  refine ha.se Hs0 H0 σ Hs H ρ R a r1 h1 _ fun x Hs1 H1 e1 w1 p1 => ?_
  refine hb.se Hs0 H0 σ Hs1 H1 (ρ.wr r1) (R.ext' e1 w1) b r2 h3 _ fun y Hs2 H2 e2 w2 p2 => ?_
  have R2 := R.ext' (e1.trans e2) w2
  refine hc.se Hs0 H0 σ Hs2 H2 (ρ.wr r2) R2 c _ h5 _ fun y Hs3 H3 e3 w3 p3 => ?_
  obtain ⟨S1, rfl, src1⟩ := ((p1.ext e2).ext e3).src h9
  obtain ⟨S2, rfl, src2⟩ := (p2.ext e3).src h12
  obtain ⟨S3, rfl, src3⟩ := p3.src h15
  obtain ⟨vs1, a1, a2⟩ := src1 Hs3 H3 (Same.refl _) e3.s (.inl fun b o _ z => z)
  obtain ⟨vs2, b1, b2⟩ := src2 Hs3 H3 (Same.refl _) e3.s (.inl fun b o _ z => z)
  obtain ⟨vs3, c1, c2⟩ := src3 Hs3 H3 (Same.refl _) e3.s (.inl fun b o _ z => z)
  refine ⟨S1, S2, S3, vs1, vs2, vs3, rfl, a1, b1, c1, q _ Hs3 H3 ((e1.trans e2).trans e3) w3 ?_⟩
  have hl := zip3_len xs ys zs
  refine ⟨fun i Hs4 H4 g s k hi => ?_, fun Hs4 H4 g s k => ?_, fun i Hs4 H4 x H5 g s k hi hy => ?_⟩
  · obtain ⟨us, q1, q2⟩ := src1 Hs4 H4 g s k
    obtain ⟨ws, q3, q4⟩ := src2 Hs4 H4 g s k
    obtain ⟨ts, q5, q6⟩ := src3 Hs4 H4 g s k
    rw [hl] at hi
    obtain ⟨d1, hd1⟩ := getAt (ds := xs) (i := i) (by omega)
    obtain ⟨d2, hd2⟩ := getAt (ds := ys) (i := i) (by omega)
    obtain ⟨d3, hd3⟩ := getAt (ds := zs) (i := i) (by omega)
    obtain ⟨v1, hv1, _⟩ := q2.get hd1
    obtain ⟨v2, hv2, _⟩ := q4.get hd2
    obtain ⟨v3, hv3, _⟩ := q6.get hd3
    exact ⟨us, ws, ts, v1, v2, v3, q1, q3, q5, hv1, hv2, hv3⟩
  · obtain ⟨us, q1, q2⟩ := src1 Hs4 H4 g s k
    obtain ⟨ws, q3, q4⟩ := src2 Hs4 H4 g s k
    obtain ⟨ts, q5, q6⟩ := src3 Hs4 H4 g s k
    exact ⟨us, ws, ts, q1, q3, q5, by rw [hl, q2.length, q4.length, q6.length]⟩
  · obtain ⟨us, q1, q2⟩ := src1 Hs4 H4 g s k
    obtain ⟨ws, q3, q4⟩ := src2 Hs4 H4 g s k
    obtain ⟨ts, q5, q6⟩ := src3 Hs4 H4 g s k
    obtain ⟨T, v1, v2, v3, rfl, hT, rfl, y1, y2, y3⟩ := hy
    obtain ⟨d1, hd1, hp1⟩ := q2.getV (y1 us q1)
    obtain ⟨d2, hd2, hp2⟩ := q4.getV (y2 ws q3)
    obtain ⟨d3, hd3, hp3⟩ := q6.getV (y3 ts q5)
    have hn := same_none s hT
    exact ⟨_, .tuple [d1, d2, d3], .new s hT, zip3_get hd1 hd2 hd3, .tup (.inl (.inl upd_same)) (RpAll.new hn (.cons hp1 (.cons hp2 (.cons hp3 .nil))))⟩⟩
/-- enumerate -/
def enumD (ds : List D) : List D := ds.zipIdx.map fun p => PyData.tuple [.int (p.2 : Nat), p.1]
theorem enumD_len (ds : List D) : (enumD ds).length = ds.length := by unfold enumD; simp
theorem enumD_get {ds : List D} {i : Nat} {d : D} (h : ds[i]? = some d) : (enumD ds)[i]? = some (.tuple [.int (i : Nat), d]) := by
  unfold enumD
  rw [List.getElem?_map, List.getElem?_zipIdx, h]
  simp
def mEnum (f : MM D) : MM (List D) := mBind f fun a => mBind (mO (dItems a)) fun xs => mRet (enumD xs)
theorem di_enum {elts : List Expr} {kk : Nat} (hm : X.mg "enumerate" = none) (ha : DB X rc m e te f) (hg : Gl X "enumerate" := by rfl) (hs : starEach [e] X.env = [(false, eval e X.env)] := by rfl) :
    DI X rc m (.Tuple elts kk tpos) (.Call (.Name "enumerate" p) [e] [] pos) (iEnum1 X.K (tCons te tNil)) (mEnum f) := ⟨pi_enum1 hg hm (pa_cons ha.pe pa_nil hs) hs, fun Hs0 H0 σ Hs H ρ R ds r hf Q q => by
  obtain ⟨a, r1, h1, h2⟩ := mBind_some hf
  obtain ⟨xs, r4, h7, h8⟩ := mBind_some h2
  obtain ⟨h9, rfl⟩ := mO_some h7
  cases h8
  refine ha.se Hs0 H0 σ Hs H ρ R a _ h1 _ fun x Hs1 H1 e1 w1 p1 => ?_
  obtain ⟨S1, rfl, src1⟩ := p1.src h9
  obtain ⟨vs1, a1, a2⟩ := src1 Hs1 H1 (Same.refl _) e1.s (.inl fun b o _ z => z)
  refine ⟨S1, vs1, rfl, a1, q _ Hs1 H1 e1 w1 ?_⟩
  have hl := enumD_len xs
  refine ⟨fun i Hs4 H4 g s k hi => ?_, fun Hs4 H4 g s k => ?_, fun i Hs4 H4 x H5 g s k hi hy => ?_⟩
  · obtain ⟨us, q1, q2⟩ := src1 Hs4 H4 g s k
    rw [hl] at hi
    obtain ⟨d1, hd1⟩ := getAt (ds := xs) (i := i) (by omega)
    obtain ⟨v1, hv1, _⟩ := q2.get hd1
    exact ⟨us, v1, q1, hv1⟩
  · obtain ⟨us, q1, q2⟩ := src1 Hs4 H4 g s k
    exact ⟨us, q1, by rw [hl, q2.length]⟩
  · obtain ⟨us, q1, q2⟩ := src1 Hs4 H4 g s k
    obtain ⟨T, v1, rfl, hT, rfl, y1⟩ := hy
    obtain ⟨d1, hd1, hp1⟩ := q2.getV (y1 us q1)
    have hn := same_none s hT
    exact ⟨_, .tuple [.int (i : Nat), d1], .new s hT, enumD_get hd1, .tup (.inl (.inl upd_same)) (RpAll.new hn (.cons (.int _) (.cons hp1 .nil)))⟩⟩
end
end DL

namespace DL
open PySem PySem.Spec PyProof.Rows L2
/-! ### targets -/
def SemG (K : PySem.W.Frag) (rc : Rc) (vs : List Nat) (g : TG) (f : D → Ev → Option Ev) : Prop :=
  ∀ Hs0 H0 σ Hs H ρ v d ρ', Rel K rc Hs0 H0 σ Hs H ρ → Rp K Hs v d → f d ρ = some ρ' → ∀ Q : L2.St → Hp → Prop, (∀ σ', Rel K rc Hs0 H0 σ' Hs H ρ' → σ'.length = σ.length → (∀ i, i ∉ vs → σ'[i]? = σ[i]?) → Q σ' H) → g v σ H Q
def SemGs (K : PySem.W.Frag) (rc : Rc) (vs : List Nat) (g : TGs) (f : List D → Ev → Option Ev) : Prop :=
  ∀ Hs0 H0 σ Hs H ρ ws ds ρ', Rel K rc Hs0 H0 σ Hs H ρ → RpAll K Hs ws ds → f ds ρ = some ρ' → ∀ Q : L2.St → Hp → Prop, (∀ σ', Rel K rc Hs0 H0 σ' Hs H ρ' → σ'.length = σ.length → (∀ i, i ∉ vs → σ'[i]? = σ[i]?) → Q σ' H) → g ws σ H Q
structure DG (X : Cx) (rc : Rc) (vs : List Nat) (e : Expr) (g : TG) (f : D → Ev → Option Ev) : Prop where
  pg : PG X e g
  se : SemG X.K rc vs g f
structure DGs (X : Cx) (rc : Rc) (vs : List Nat) (e : List Expr) (g : TGs) (f : List D → Ev → Option Ev) : Prop where
  pg : PGs X e g
  se : SemGs X.K rc vs g f
def gtName (i : Nat) (d : D) (ρ : Ev) : Option Ev := some (ρ.set i (.s d))
def gtNil (ds : List D) (ρ : Ev) : Option Ev := match ds with
  | [] => some ρ
  | _ => none
def gtCons (f : D → Ev → Option Ev) (fs : List D → Ev → Option Ev) (ds : List D) (ρ : Ev) : Option Ev := match ds with
  | d :: r => (match f d ρ with
    | some ρ1 => fs r ρ1
    | none => none)
  | [] => none
def gtTup (n : Nat) (fs : List D → Ev → Option Ev) (d : D) (ρ : Ev) : Option Ev := match d with
  | .tuple ds => if ds.length = n then fs ds ρ else none
  | _ => none
section
variable {X : Cx} {rc : Rc} {vs : List Nat} {pos : Pos}
theorem dg_name {i : Nat} {x : Str} (hN : X.N.Nodup) (hv : i ∈ vs) (hi : X.N[i]? = some x := by rfl) (hx : Loc X.env.scope x := by first | exact Or.inl rfl | exact Or.inr rfl) (hf : X.fn x = true ∨ X.env.scope.names.lookup x = some .local := by first | exact .inl rfl | exact .inr rfl | assumption) :
    DG X rc vs (.Name x pos) (gName i) (gtName i) := ⟨pg_name hN hi hx hf, fun Hs0 H0 σ Hs H ρ v d ρ' R hp hf Q q => by
  cases hf
  refine q _ (R.set hp) (by rw [List.length_set]) fun j hj => ?_
  have hij : i ≠ j := fun z => hj (by rw [← z]; exact hv)
  rw [List.getElem?_set_ne hij]⟩
theorem dgs_nil : DGs X rc vs [] gNil gtNil := ⟨pgs_nil, fun Hs0 H0 σ Hs H ρ ws ds ρ' R hp hf Q q => by
  cases ds with
  | nil =>
    cases hf
    cases hp
    exact ⟨rfl, q σ R rfl fun _ _ => rfl⟩
  | cons _ _ => cases hf⟩
theorem dgs_cons {e : Expr} {es : List Expr} {g : TG} {u : TGs} {f : D → Ev → Option Ev} {fs : List D → Ev → Option Ev} (h1 : DG X rc vs e g f) (h2 : DGs X rc vs es u fs)
    (hs : (assignEach (e :: es) X.env).map (·.2) = assign e X.env :: (assignEach es X.env).map (·.2) := by rfl) : DGs X rc vs (e :: es) (gCons g u) (gtCons f fs) := ⟨pgs_cons h1.pg h2.pg hs, fun Hs0 H0 σ Hs H ρ ws ds ρ' R hp hf Q q => by
  cases ds with
  | nil => cases hf
  | cons d r =>
    cases hp with
    | cons p1 p2 =>
      simp only [gtCons] at hf
      cases e1 : f d ρ with
      | none => rw [e1] at hf; cases hf
      | some ρ1 =>
        rw [e1] at hf
        refine ⟨_, _, rfl, h1.se Hs0 H0 σ Hs H ρ _ d ρ1 R p1 e1 _ fun σ1 R1 l1 k1 => ?_⟩
        exact h2.se Hs0 H0 σ1 Hs H ρ1 _ r ρ' R1 p2 hf Q fun σ2 R2 l2 k2 => q σ2 R2 (l2.trans l1) fun i hi => (k2 i hi).trans (k1 i hi)⟩
theorem dg_tup {es : List Expr} {k : Nat} {u : TGs} {fs : List D → Ev → Option Ev} {n : Nat} (hc : X.calm = true) (h : DGs X rc vs es u fs)
    (hn : (assignEach es X.env).length = n := by rfl) (hst : (assignEach es X.env).findIdx? (·.1) = none := by rfl) : DG X rc vs (.Tuple es k pos) (gTup X.K n u) (gtTup n fs) := ⟨pg_tup hc h.pg hn hst, fun Hs0 H0 σ Hs H ρ v d ρ' R hp hf Q q => by
  cases d with
  | tuple ds =>
    simp only [gtTup] at hf
    by_cases hl : ds.length = n
    · rw [if_pos hl] at hf
      obtain ⟨a, xs, rfl, h1, h2⟩ := hp.tup_inv
      exact ⟨a, xs, rfl, seqT_same R.same h1, by rw [h2.length]; exact hl, h.se Hs0 H0 σ Hs H ρ xs ds ρ' R h2 hf Q q⟩
    · rw [if_neg hl] at hf; cases hf
  | _ => cases hf⟩
end
/-! ### the slots of a comprehension's own names -/
def wipeS (sl : List Sl) : List Nat → List Sl
  | [] => sl
  | v :: vs => (wipeS sl vs).set v .no
def Ev.wipe (ρ : Ev) (vs : List Nat) : Ev := ⟨ρ.row, wipeS ρ.sl vs⟩
section
variable {K : PySem.W.Frag} {rc : Rc} {Hs0 H0 Hs H : Hp} {σ : L2.St} {ρ : Ev}
theorem Rel.setNo (R : Rel K rc Hs0 H0 σ Hs H ρ) (i : Nat) (x : Option V) : Rel K rc Hs0 H0 (σ.set i x) Hs H (ρ.set i .no) := by
  have hl : (ρ.set i .no).sl.length = ρ.sl.length := by simp [Ev.set]
  have key : ∀ j, (ρ.set i .no).get j = if i = j then .no else ρ.get j := fun j => by
    rw [Ev.get_set]
    by_cases e : i = j
    · subst e
      by_cases hi : i < ρ.sl.length
      · simp [hi]
      · simp only [hi, and_false, if_false, if_true]
        unfold Ev.get
        rw [List.getD_eq_getElem?_getD, List.getElem?_eq_none (by omega)]
        rfl
    · simp [e]
  refine ⟨R.ext, R.s0, R.row, R.rn, R.scr, by rw [hl, List.length_set]; exact R.len, fun j => ?_, fun j k p hjk hj hk => ?_⟩
  · rw [key]
    by_cases e : i = j
    · rw [if_pos e]; trivial
    · rw [if_neg e, List.getElem?_set_ne e]; exact R.sl j
  · rw [key] at hj hk
    by_cases e : i = j
    · rw [if_pos e] at hj; exact hj.elim
    · by_cases e2 : i = k
      · rw [if_pos e2] at hk; exact hk.elim
      · rw [if_neg e] at hj
        rw [if_neg e2] at hk
        rw [List.getElem?_set_ne e, List.getElem?_set_ne e2]
        exact R.dis j k p hjk hj hk
theorem Rel.wipe (R : Rel K rc Hs0 H0 σ Hs H ρ) : ∀ vs : List Nat, Rel K rc Hs0 H0 (L2.wipe σ vs) Hs H (ρ.wipe vs)
  | [] => R
  | v :: vs => (Rel.wipe R vs).setNo v none
end
theorem wipe_get {σ : L2.St} {i : Nat} : ∀ {vs : List Nat}, (L2.wipe σ vs)[i]? = if i ∈ vs ∧ i < σ.length then some none else σ[i]?
  | [] => by simp [L2.wipe]
  | v :: vs => by
    unfold L2.wipe
    by_cases h : v = i
    · subst h
      by_cases hl : v < σ.length
      · rw [List.getElem?_set_self (by rw [wipe_length]; exact hl), if_pos ⟨by simp, hl⟩]
      · rw [List.getElem?_eq_none (by rw [List.length_set, wipe_length]; omega), if_neg (fun z => hl z.2), List.getElem?_eq_none (by omega)]
    · rw [List.getElem?_set_ne h, wipe_get]
      have : (i ∈ v :: vs) ↔ i ∈ vs := by
        rw [List.mem_cons]
        exact ⟨fun z => z.elim (fun z => absurd z.symm h) id, .inr⟩
      simp only [this]
theorem wipe_same {σ σ' : L2.St} {vs : List Nat} (hl : σ'.length = (L2.wipe σ vs).length) (hk : ∀ i, i ∉ vs → σ'[i]? = (L2.wipe σ vs)[i]?) : L2.wipe σ' vs = L2.wipe σ vs := by
  apply List.ext_getElem?
  intro i
  rw [wipe_length] at hl
  rw [wipe_get]
  by_cases hi : i ∈ vs
  · by_cases hb : i < σ'.length
    · rw [if_pos ⟨hi, hb⟩, wipe_get, if_pos ⟨hi, by omega⟩]
    · rw [if_neg (fun z => hb z.2), List.getElem?_eq_none (by omega), List.getElem?_eq_none (by rw [wipe_length]; omega)]
  · rw [if_neg (fun z => hi z.1)]
    exact hk i hi
theorem row_upd {K : PySem.W.Frag} {rc : Rc} {H1 H5 : Hp} {Dn : Addr} {o : HO} {r1 r : Row} (w1 : RowAt K rc H1 r1) (hD : H1 Dn = none) (nrow : rc.ad ≠ some Dn) (w : RowAt K rc H5 r) : RowAt K rc (upd H5 Dn o) r := by
  cases rc with
  | none => trivial
  | some x =>
    obtain ⟨a, sc, ns⟩ := x
    have na : a ≠ Dn := fun z => nrow (by rw [← z]; rfl)
    refine ⟨⟨by rw [upd_ne na]; exact w.1.1, w.1.2⟩, ?_⟩
    rcases w1.2 with h | h
    · have nsc : sc ≠ Dn := by
        rcases h with h | ⟨u, h⟩
        · exact fun z => by rw [z, hD] at h; cases h
        · exact fun z => by rw [z, hD] at h; cases h
      rcases w.2 with (h | ⟨u, h⟩) | h
      · exact .inl (.inl (by rw [upd_ne nsc]; exact h))
      · exact .inl (.inr ⟨u, by rw [upd_ne nsc]; exact h⟩)
      · exact .inr h
    · exact .inr h
/-! ### comprehensions -/
def lcGo (vs : List Nat) (fg : D → Ev → Option Ev) (ft : MM Bool) (fe : MM D) : List D → MM (List D)
  | [] => mRet []
  | d :: ds => fun ρ => match fg d (ρ.wipe vs) with
    | none => none
    | some ρ1 => match ft ρ1 with
      | none => none
      | some (b, r1) => if b = true then (match fe (ρ1.wr r1) with
          | none => none
          | some (y, r2) => match lcGo vs fg ft fe ds (ρ.wr r2) with
            | none => none
            | some (l, r3) => some (y :: l, r3))
        else lcGo vs fg ft fe ds (ρ.wr r1)
def mLc (vs : List Nat) (fi : MM (List D)) (fg : D → Ev → Option Ev) (ft : MM Bool) (fe : MM D) : MM (List D) := mBind fi fun ds => mBind (mO (dLst ds)) fun ds => lcGo vs fg ft fe ds
theorem lcGo_row {vs : List Nat} {fg : D → Ev → Option Ev} {ft : MM Bool} {fe : MM D} {ds : List D} {ρ : Ev} {r : Row} : lcGo vs fg ft fe ds (ρ.wr r) = lcGo vs fg ft fe ds (ρ.wr r) := rfl
theorem sem_lc {K : PySem.W.Frag} {rc : Rc} {m : Bool} {vs : List Nat} {wi : TI} {g : TG} {tt : TT} {te : TE} {fi : MM (List D)} {fg : D → Ev → Option Ev} {ft : MM Bool} {fe : MM D} (hi : SemI K rc m wi fi) (hg : SemG K rc vs g fg) (ht : Sem K rc PT_ tt ft) (he : Sem K rc (PE_ K) te fe) :
    ∀ Hs0 H0 σ Hs H ρ, Rel K rc Hs0 H0 σ Hs H ρ → ∀ b r, mLc vs fi fg ft fe ρ = some (b, r) → ∀ Q : V → Hp → Prop, (∀ a Hs' H', Ext rc Hs H Hs' H' → RowAt K rc H' r → (∃ p ws, a = .ref p ∧ H p = none ∧ H' p = some (.lst ws) ∧ Hs' p = none ∧ RpAll K Hs' ws b) → Q a H') → tLc wi g tt te vs σ H Q := by
  intro Hs0 H0 σ Hs H ρ R fin rfin hf Q q
  obtain ⟨ds, rA, h1, h2⟩ := mBind_some hf
  obtain ⟨ds', rB, h3, h4⟩ := mBind_some h2
  obtain ⟨h5, rfl⟩ := mO_some h3
  unfold dLst at h5
  by_cases hz : ds.length ≤ 1000000
  · rw [if_pos hz] at h5
    cases h5
    refine hi Hs0 H0 σ Hs H ρ R ds _ h1 _ fun J Hs1 H1 e1 w1 W => ?_
    intro Dn hD
    have hDs := same_none e1.s hD
    have R1 := R.ext' e1 w1
    have h4 : lcGo vs fg ft fe ds (ρ.wr rB) = some (fin, rfin) := h4
    have nrow : rc.ad ≠ some Dn := fun z => (R1.ext.d Dn (R1.rn Dn z).1) hD
    -- the invariant
    refine ⟨fun i n H2 => n = ds.length - i ∧ i ≤ ds.length ∧ ∃ Hs2 acc accD rest r, Ext rc Hs1 H1 Hs2 H2 ∧ RowAt K rc H2 r ∧ H2 Dn = some (.lst acc) ∧ Hs2 Dn = none ∧ RpAll K Hs2 acc accD ∧ accD.length ≤ i ∧ lcGo vs fg ft fe (ds.drop i) (ρ.wr r) = some (rest, rfin) ∧ accD ++ rest = fin,
      ⟨ds.length, by simp, Nat.zero_le _, Hs1, [], [], fin, rB, ?_, row_new hD w1, upd_same, hDs, .nil, Nat.le_refl _, h4, rfl⟩, ?_⟩
    · exact Ext.newP e1.s hD
    · rintro i n H2 ⟨rfl, hin, Hs2, acc, accD, rest, r, e2, w2, hacc, hDs2, hra, hal, hgo, hfin⟩
      have kp : Kp rc H1 H2 := e2.k
      by_cases hlt : i < ds.length
      · refine .inr ⟨W.go i Hs2 H2 e2.g e2.s (.inl kp) hlt, fun H3 => ∃ n', n' = ds.length - (i + 1) ∧ i + 1 ≤ ds.length ∧ ∃ Hs2 acc accD rest r, Ext rc Hs1 H1 Hs2 H3 ∧ RowAt K rc H3 r ∧ H3 Dn = some (.lst acc) ∧ Hs2 Dn = none ∧ RpAll K Hs2 acc accD ∧ accD.length ≤ i + 1 ∧ lcGo vs fg ft fe (ds.drop (i + 1)) (ρ.wr r) = some (rest, rfin) ∧ accD ++ rest = fin, fun H' ⟨n', hn', rest'⟩ => ⟨n', by omega, hn', rest'⟩, fun x H3 hy => ?_⟩
        obtain ⟨Hs3, d, e3, hd, hx⟩ := W.yld i Hs2 H2 x H3 e2.g e2.s (.inl kp) hlt hy
        have e23 : Ext rc Hs1 H1 Hs3 H3 := e2.trans e3.of_none
        have hgd : ds.drop i = d :: ds.drop (i + 1) := by
          rw [List.drop_eq_getElem_cons hlt]
          have := List.getElem?_eq_getElem hlt
          rw [this] at hd
          cases hd
          rfl
        rw [hgd] at hgo
        simp only [lcGo] at hgo
        have w3 : RowAt K rc H3 r := w2.keep e3.same_none
        have R3 : Rel K rc Hs0 H0 σ Hs3 H3 (ρ.wr r) := R1.ext' e23 w3
        have Rw := R3.wipe vs
        cases hg1 : fg d ((ρ.wr r).wipe vs) with
        | none => rw [hg1] at hgo; cases hgo
        | some ρ1 =>
          rw [hg1] at hgo
          refine hg Hs0 H0 (L2.wipe σ vs) Hs3 H3 _ x d ρ1 Rw hx hg1 _ fun σ2 R2' l2 k2 => ⟨wipe_same l2 k2, ?_⟩
          cases ht1 : ft ρ1 with
          | none => simp only [ht1] at hgo; cases hgo
          | some p =>
            obtain ⟨b, ra⟩ := p
            simp only [ht1] at hgo
            refine ht Hs0 H0 σ2 Hs3 H3 ρ1 R2' b ra ht1 _ fun b' Hs4 H4 e4 w4 pb => ?_
            cases pb
            have R4 := R2'.ext' e4 w4
            cases b with
            | false =>
              rw [if_neg Bool.false_ne_true] at hgo ⊢
              have e24 := e23.trans e4
              refine ⟨_, rfl, hlt, Hs4, acc, accD, rest, ra, e24, w4, ?_, ?_, hra.mono (e3.g.trans e4.g), by omega, hgo, hfin⟩
              · exact e4.k _ _ nrow (e3.same_none _ _ hacc)
              · exact e4.p _ (by rw [e3.same_none _ _ hacc]; simp) (e3.p _ (by rw [hacc]; simp) hDs2)
            | true =>
              rw [if_pos rfl] at hgo ⊢
              cases he1 : fe (ρ1.wr ra) with
              | none => rw [he1] at hgo; cases hgo
              | some p =>
                obtain ⟨y, rb⟩ := p
                rw [he1] at hgo
                refine he Hs0 H0 σ2 Hs4 H4 _ R4 y rb he1 _ fun yv Hs5 H5 e5 w5 py => ?_
                have hD4 : H4 Dn = some (.lst acc) := e4.k _ _ nrow (e3.same_none _ _ hacc)
                have hD5 : H5 Dn = some (.lst acc) := e5.k _ _ nrow hD4
                have hs5 : Hs5 Dn = none := e5.p _ (by rw [hD4]; simp) (e4.p _ (by rw [e3.same_none _ _ hacc]; simp) (e3.p _ (by rw [hacc]; simp) hDs2))
                have e25 := (e23.trans e4).trans e5
                cases hl1 : lcGo vs fg ft fe (ds.drop (i + 1)) ((ρ.wr r).wr rb) with
                | none => simp only [hl1] at hgo; cases hgo
                | some p =>
                  obtain ⟨l, rl⟩ := p
                  simp only [hl1] at hgo
                  cases hgo
                  refine ⟨acc, hD5, by rw [hra.length]; exact big_lt (by omega), _, rfl, hlt, Hs5, acc ++ [yv], accD ++ [y], l, rb, ?_, ?_, upd_same, hs5, ?_, by rw [List.length_append, List.length_singleton]; omega, hl1, by rw [List.append_assoc]; exact hfin⟩
                  · have nb : ∀ b o, H1 b = some o → b ≠ Dn := fun b o z e => by rw [e, hD] at z; cases z
                    refine ⟨e25.g, fun b o z => ?_, fun b o n z => by rw [upd_ne (nb b o z)]; exact e25.k b o n z, fun b z => ?_, e25.p⟩
                    · rw [upd_ne (fun e => by rw [e, hs5] at z; cases z)]; exact e25.s b o z
                    · by_cases e : b = Dn
                      · rw [e, upd_same]; simp
                      · rw [upd_ne e]; exact e25.d b z
                  · exact row_upd w1 hD nrow w5
                  · exact (hra.mono ((e3.g.trans e4.g).trans e5.g)).append (.cons py .nil)
      · have ei : i = ds.length := by omega
        subst ei
        rw [List.drop_length] at hgo
        cases hgo
        rw [List.append_nil] at hfin
        subst hfin
        refine .inl ⟨W.stop Hs2 H2 e2.g e2.s (.inl kp), q _ Hs2 H2 (e1.trans e2) w2 ⟨Dn, acc, rfl, ?_, hacc, hDs2, hra⟩⟩
        cases z : H Dn with
        | none => rfl
        | some u => exact absurd hD (e1.d Dn (by rw [z]; simp))
  · rw [if_neg hz] at h5; cases h5
end DL

namespace DL
open PySem PySem.Spec PyProof.Rows L2
structure DTs (X : Cx) (rc : Rc) (es : List Expr) (t : TT) (f : MM Bool) : Prop where
  pe : PTs X es t
  se : Sem X.K rc PT_ t f
/-! ### statements -/
inductive Oc where
  | nx (ρ : Ev)
  | ret (d : D) (w : Row)
  | bk (ρ : Ev)
  | ct (ρ : Ev)
abbrev MS := Ev → Option Oc
def Post (K : PySem.W.Frag) (rc : Rc) (Hs0 H0 Hs : Hp) (E : Ends) : Oc → Prop
  | .nx ρ' => ∀ σ' Hs' H', Same Hs Hs' → Rel K rc Hs0 H0 σ' Hs' H' ρ' → E.nx σ' H'
  | .bk ρ' => ∀ σ' Hs' H', Same Hs Hs' → Rel K rc Hs0 H0 σ' Hs' H' ρ' → E.bk σ' H'
  | .ct ρ' => ∀ σ' Hs' H', Same Hs Hs' → Rel K rc Hs0 H0 σ' Hs' H' ρ' → E.ct σ' H'
  | .ret d w => ∀ v Hs' H', Ext rc Hs0 H0 Hs' H' → RowAt K rc H' w → Rp K Hs' v d → E.rt v H'
def SemS (K : PySem.W.Frag) (rc : Rc) (t : TS) (g : MS) : Prop :=
  ∀ Hs0 H0 σ Hs H ρ, Rel K rc Hs0 H0 σ Hs H ρ → ∀ oc, g ρ = some oc → ∀ E : Ends, Post K rc Hs0 H0 Hs E oc → t E σ H
structure DS (X : Cx) (rc : Rc) (st : Stmt) (t : TS) (g : MS) : Prop where
  ps : PS X st t
  se : SemS X.K rc t g
structure DSs (X : Cx) (rc : Rc) (st : List Stmt) (t : TS) (g : MS) : Prop where
  ps : PSs X st t
  se : SemS X.K rc t g
theorem Post.weak {K : PySem.W.Frag} {rc : Rc} {Hs0 H0 Hs Hs1 : Hp} {E : Ends} (g : Same Hs Hs1) : ∀ {oc : Oc}, Post K rc Hs0 H0 Hs E oc → Post K rc Hs0 H0 Hs1 E oc
  | .nx _, p => fun σ' Hs' H' s R => p σ' Hs' H' (g.trans s) R
  | .bk _, p => fun σ' Hs' H' s R => p σ' Hs' H' (g.trans s) R
  | .ct _, p => fun σ' Hs' H' s R => p σ' Hs' H' (g.trans s) R
  | .ret _ _, p => p
section
variable {K : PySem.W.Frag} {rc : Rc} {te : TE} {f : MM D} {fl : MM (List D)} {i : Nat}
def NewF (K : PySem.W.Frag) (rc : Rc) (te : TE) (f : MM (List D)) : Prop := ∀ Hs0 H0 σ Hs H ρ, Rel K rc Hs0 H0 σ Hs H ρ → ∀ b r, f ρ = some (b, r) → ∀ Q : V → Hp → Prop, (∀ a Hs' H', Ext rc Hs H Hs' H' → RowAt K rc H' r → (∃ p vs, a = .ref p ∧ H p = none ∧ H' p = some (.lst vs) ∧ Hs' p = none ∧ RpAll K Hs' vs b) → Q a H') → te σ H Q
def gSet (i : Nat) (f : MM D) : MS := fun ρ => match f ρ with
  | some (d, r) => some (.nx ((ρ.wr r).set i (.s d)))
  | none => none
def gSetO (i : Nat) (f : MM (List D)) : MS := fun ρ => match f ρ with
  | some (d, r) => some (.nx ((ρ.wr r).set i (.o d)))
  | none => none
theorem sem_setE (h : Sem K rc (PE_ K) te f) : SemS K rc (tAsg te (gName i)) (gSet i f) := fun Hs0 H0 σ Hs H ρ R oc hf E P => by
  unfold gSet at hf
  cases e : f ρ with
  | none => rw [e] at hf; cases hf
  | some p =>
    obtain ⟨d, r⟩ := p
    rw [e] at hf
    cases hf
    exact h Hs0 H0 σ Hs H ρ R d r e _ fun v Hs1 H1 e1 w1 p1 => P _ Hs1 H1 e1.g ((R.ext' e1 w1).set p1)
theorem Rel.fresh0 {Hs0 H0 Hs H : Hp} {σ : L2.St} {ρ : Ev} (R : Rel K rc Hs0 H0 σ Hs H ρ) {p : Addr} (h : H p = none) : H0 p = none := by
  cases z : H0 p with
  | none => rfl
  | some u => exact absurd h (R.ext.d p (by rw [z]; simp))
theorem Rel.notOwn {Hs0 H0 Hs H : Hp} {σ : L2.St} {ρ : Ev} (R : Rel K rc Hs0 H0 σ Hs H ρ) {p : Addr} (h : H p = none) (j : Nat) (hj : (ρ.get j).own) : σ[j]? ≠ some (some (.ref p)) := fun e => by
  have q := R.sl j
  cases hx : ρ.get j with
  | o ds =>
    rw [hx] at q
    obtain ⟨p2, v2, f1, f2, _⟩ := q
    rw [e] at f1
    cases f1
    rw [h] at f2
    cases f2
  | _ => rw [hx] at hj; exact hj.elim
theorem sem_setO (h : NewF K rc te fl) : SemS K rc (tAsg te (gName i)) (gSetO i fl) := fun Hs0 H0 σ Hs H ρ R oc hf E P => by
  unfold gSetO at hf
  cases e : fl ρ with
  | none => rw [e] at hf; cases hf
  | some p =>
    obtain ⟨d, r⟩ := p
    rw [e] at hf
    cases hf
    refine h Hs0 H0 σ Hs H ρ R d r e _ fun v Hs1 H1 e1 w1 ⟨p, vs, ev, hn, hp, hs, hr⟩ => ?_
    subst ev
    refine P _ Hs1 H1 e1.g ((R.ext' e1 w1).setO hp hs (R.fresh0 hn) hr fun j hj _ => ?_)
    exact R.notOwn hn j hj
theorem NewF.e (h : NewF K rc te fl) : Sem K rc (PE_ K) te (mBind fl fun ds => mRet (.list ds)) := fun Hs0 H0 σ Hs H ρ R b r hf Q q => by
  obtain ⟨ds, r1, h1, h2⟩ := mBind_some hf
  cases h2
  refine h Hs0 H0 σ Hs H ρ R ds _ h1 Q fun v Hs' H' e w ⟨p, vs, ev, hn, hp, hs, hr⟩ => ?_
  subst ev
  refine q _ (upd Hs' p (.lst vs)) H' ⟨fun b o hb => ?_, fun b o hb => ?_, e.k, e.d, fun b hb hs' => ?_⟩ w ?_
  · have hb' := e.g b o hb
    rw [upd_ne (fun z => by rw [z, hs] at hb'; cases hb')]
    exact hb'
  · by_cases z : b = p
    · subst z; rw [upd_same] at hb; cases hb; exact hp
    · rw [upd_ne z] at hb; exact e.s b o hb
  · have z : b ≠ p := fun z => by rw [z, hn] at hb; exact hb rfl
    rw [upd_ne z]; exact e.p b hb hs'
  · refine .lst upd_same (hr.mono fun b o hb => ?_)
    rw [upd_ne (fun z => by rw [z, hs] at hb; cases hb)]
    exact hb
end
/-- a context's Shared, for what does not depend on it -/
def anyS (X : Cx) : Shared := (start X.prog).1
section
variable {X : Cx} {rc : Rc} {m m' : Bool} {e e2 tg a b c : Expr} {pos p tpos : Pos} {te te2 : TE} {f f2 : MM D} {fl : MM (List D)} {i : Nat} {x : Str}
/-! ### comprehensions -/
theorem dts_nil : DTs X rc [] tYes (mRet true) := ⟨pts_nil, fun Hs0 H0 σ Hs H ρ R d r hf Q q => by
  cases hf
  exact q true Hs H (.refl R.same) R.row rfl⟩
theorem dts_one {c : Expr} {t : TT} {ft : MM Bool} (h : DT X rc c t ft) : DTs X rc [c] t ft := ⟨pts_one h.pe, h.se⟩
section
variable {elt iter : Expr} {ifs : List Expr} {scope : Scope} {own : List (Str × Nat)} {wi : TI} {g : TG} {tt : TT} {fi : MM (List D)} {fg : D → Ev → Option Ev} {ft : MM Bool} {fe : MM D}
theorem df_lc (hc : X.calm = true) (hN : X.N.Nodup) (hi : DI X rc m tg iter wi fi) (ok : BlkOk X.N X.env.scope scope own)
    (hg : ∀ (s : Shared) (H : Hp) (C : Addr) (cl : List (Str × Addr)) (fp : List Addr), DG (X.blk s H scope (compEnvC scope cl C X.env) fp) rc (own.map (·.2)) tg g fg) (ht : ∀ (s : Shared) (H : Hp) (C : Addr) (cl : List (Str × Addr)) (fp : List Addr), DTs (X.blk s H scope (compEnvC scope cl C X.env) fp) rc ifs tt ft)
    (he : ∀ (s : Shared) (H : Hp) (C : Addr) (cl : List (Str × Addr)) (fp : List Addr), DE (X.blk s H scope (compEnvC scope cl C X.env) fp) rc elt te fe) (hs : ∀ x, foldedSetIterable iter X.env x = pure x := by intro _; rfl) :
    DF X rc (.ListComp elt [⟨tg, iter, ifs, 0⟩] scope pos) (tLc wi g tt te (own.map (·.2))) (mLc (own.map (·.2)) fi fg ft fe) :=
  df_of (pe_lc hc hN hi.pi ok (fun s H C cl fp => (hg s H C cl fp).pg) (fun s H C cl fp => (ht s H C cl fp).pe) (fun s H C cl fp => (he s H C cl fp).pe) hs)
    (sem_lc hi.se (hg (anyS X) (fun _ => none) 0 [] []).se (ht (anyS X) (fun _ => none) 0 [] []).se (he (anyS X) (fun _ => none) 0 [] []).se)
theorem ds_setLcO {y : Str} {py spos : Pos} (hc : X.calm = true) (hN : X.N.Nodup) (hy : X.N[i]? = some y) (hyl : X.env.scope.names.lookup y = some .local) (hsw : swapsWith (.ListComp elt [⟨tg, iter, ifs, 0⟩] scope pos) (some (.Name y py)) spos.line X.env = pure true) (hi : DI X rc m tg iter wi fi) (ok : BlkOk X.N X.env.scope scope own)
    (hg : ∀ (s : Shared) (H : Hp) (C : Addr) (cl : List (Str × Addr)) (fp : List Addr), DG (X.blk s H scope (compEnvC scope cl C X.env) fp) rc (own.map (·.2)) tg g fg) (ht : ∀ (s : Shared) (H : Hp) (C : Addr) (cl : List (Str × Addr)) (fp : List Addr), DTs (X.blk s H scope (compEnvC scope cl C X.env) fp) rc ifs tt ft)
    (he : ∀ (s : Shared) (H : Hp) (C : Addr) (cl : List (Str × Addr)) (fp : List Addr), DE (X.blk s H scope (compEnvC scope cl C X.env) fp) rc elt te fe) (hs : ∀ x, foldedSetIterable iter X.env x = pure x := by intro _; rfl) :
    DS X rc (.Assign [.Name y py] (.ListComp elt [⟨tg, iter, ifs, 0⟩] scope pos) spos) (tAsg (tLc wi g tt te (own.map (·.2))) (gName i)) (gSetO i (mLc (own.map (·.2)) fi fg ft fe)) :=
  ⟨ps_setLc hc hN hy hyl hsw hi.pi ok (fun s H C cl fp => (hg s H C cl fp).pg) (fun s H C cl fp => (ht s H C cl fp).pe) (fun s H C cl fp => (he s H C cl fp).pe) hs,
    sem_setO (sem_lc hi.se (hg (anyS X) (fun _ => none) 0 [] []).se (ht (anyS X) (fun _ => none) 0 [] []).se (he (anyS X) (fun _ => none) 0 [] []).se)⟩
theorem ds_setLc {y : Str} {py spos : Pos} (hc : X.calm = true) (hN : X.N.Nodup) (hy : X.N[i]? = some y) (hyl : X.env.scope.names.lookup y = some .local) (hsw : swapsWith (.ListComp elt [⟨tg, iter, ifs, 0⟩] scope pos) (some (.Name y py)) spos.line X.env = pure true) (hi : DI X rc m tg iter wi fi) (ok : BlkOk X.N X.env.scope scope own)
    (hg : ∀ (s : Shared) (H : Hp) (C : Addr) (cl : List (Str × Addr)) (fp : List Addr), DG (X.blk s H scope (compEnvC scope cl C X.env) fp) rc (own.map (·.2)) tg g fg) (ht : ∀ (s : Shared) (H : Hp) (C : Addr) (cl : List (Str × Addr)) (fp : List Addr), DTs (X.blk s H scope (compEnvC scope cl C X.env) fp) rc ifs tt ft)
    (he : ∀ (s : Shared) (H : Hp) (C : Addr) (cl : List (Str × Addr)) (fp : List Addr), DE (X.blk s H scope (compEnvC scope cl C X.env) fp) rc elt te fe) (hs : ∀ x, foldedSetIterable iter X.env x = pure x := by intro _; rfl) :
    DS X rc (.Assign [.Name y py] (.ListComp elt [⟨tg, iter, ifs, 0⟩] scope pos) spos) (tAsg (tLc wi g tt te (own.map (·.2))) (gName i)) (gSet i (mBind (mLc (own.map (·.2)) fi fg ft fe) fun ds => mRet (.list ds))) :=
  ⟨ps_setLc hc hN hy hyl hsw hi.pi ok (fun s H C cl fp => (hg s H C cl fp).pg) (fun s H C cl fp => (ht s H C cl fp).pe) (fun s H C cl fp => (he s H C cl fp).pe) hs,
    sem_setE (NewF.e (sem_lc hi.se (hg (anyS X) (fun _ => none) 0 [] []).se (ht (anyS X) (fun _ => none) 0 [] []).se (he (anyS X) (fun _ => none) 0 [] []).se))⟩
end
/-! ### assignments -/
theorem ds_set {pos' : Pos} (hN : X.N.Nodup) (he : DE X rc e te f) (hi : X.N[i]? = some x := by rfl) (hx : Loc X.env.scope x := by first | exact Or.inl rfl | exact Or.inr rfl) (hs : swapsWith e (some (.Name x pos')) pos.line X.env = pure false := by rfl) (hf : X.fn x = true ∨ X.env.scope.names.lookup x = some .local := by first | exact .inl rfl | exact .inr rfl | assumption) :
    DS X rc (.Assign [.Name x pos'] e pos) (tAsg te (gName i)) (gSet i f) := ⟨ps_set hN hi hx he.pe hs hf, sem_setE he.se⟩
theorem ds_setO {pos' : Pos} (hN : X.N.Nodup) (he : DF X rc e te fl) (hi : X.N[i]? = some x := by rfl) (hx : Loc X.env.scope x := by first | exact Or.inl rfl | exact Or.inr rfl) (hs : swapsWith e (some (.Name x pos')) pos.line X.env = pure false := by rfl) (hf : X.fn x = true ∨ X.env.scope.names.lookup x = some .local := by first | exact .inl rfl | exact .inr rfl | assumption) :
    DS X rc (.Assign [.Name x pos'] e pos) (tAsg te (gName i)) (gSetO i fl) := ⟨ps_set hN hi hx he.pe hs hf, sem_setO he.new⟩
/-- a target that may change a list of one's own -/
def SemX (K : PySem.W.Frag) (rc : Rc) (g : TG) (f : D → Ev → Option Ev) : Prop :=
  ∀ Hs0 H0 σ Hs H ρ v d ρ', Rel K rc Hs0 H0 σ Hs H ρ → Rp K Hs v d → f d ρ = some ρ' → ∀ Q : L2.St → Hp → Prop, (∀ σ' Hs' H', Same Hs Hs' → Rel K rc Hs0 H0 σ' Hs' H' ρ' → Q σ' H') → g v σ H Q
def SemXs (K : PySem.W.Frag) (rc : Rc) (g : TGs) (f : List D → Ev → Option Ev) : Prop :=
  ∀ Hs0 H0 σ Hs H ρ v d ρ', Rel K rc Hs0 H0 σ Hs H ρ → RpAll K Hs v d → f d ρ = some ρ' → ∀ Q : L2.St → Hp → Prop, (∀ σ' Hs' H', Same Hs Hs' → Rel K rc Hs0 H0 σ' Hs' H' ρ' → Q σ' H') → g v σ H Q
structure DX (X : Cx) (rc : Rc) (e : Expr) (g : TG) (f : D → Ev → Option Ev) : Prop where
  pg : PG X e g
  se : SemX X.K rc g f
structure DXs (X : Cx) (rc : Rc) (e : List Expr) (g : TGs) (f : List D → Ev → Option Ev) : Prop where
  pg : PGs X e g
  se : SemXs X.K rc g f
theorem DG.toX {vs : List Nat} {g : TG} {fg : D → Ev → Option Ev} (h : DG X rc vs e g fg) : DX X rc e g fg := ⟨h.pg, fun Hs0 H0 σ Hs H ρ v d ρ' R hp hf Q q => h.se Hs0 H0 σ Hs H ρ v d ρ' R hp hf Q fun σ' R' _ _ => q σ' Hs H (Same.refl _) R'⟩
theorem dxs_nil : DXs X rc [] gNil gtNil := ⟨pgs_nil, fun Hs0 H0 σ Hs H ρ ws ds ρ' R hp hf Q q => by
  cases ds with
  | nil =>
    cases hf
    cases hp
    exact ⟨rfl, q σ Hs H (Same.refl _) R⟩
  | cons _ _ => cases hf⟩
theorem dxs_cons {es : List Expr} {g : TG} {u : TGs} {fg : D → Ev → Option Ev} {fs : List D → Ev → Option Ev} (h1 : DX X rc e g fg) (h2 : DXs X rc es u fs)
    (hs : (assignEach (e :: es) X.env).map (·.2) = assign e X.env :: (assignEach es X.env).map (·.2) := by rfl) : DXs X rc (e :: es) (gCons g u) (gtCons fg fs) := ⟨pgs_cons h1.pg h2.pg hs, fun Hs0 H0 σ Hs H ρ ws ds ρ' R hp hf Q q => by
  cases ds with
  | nil => cases hf
  | cons d r =>
    cases hp with
    | cons p1 p2 =>
      simp only [gtCons] at hf
      cases e1 : fg d ρ with
      | none => rw [e1] at hf; cases hf
      | some ρ1 =>
        rw [e1] at hf
        refine ⟨_, _, rfl, h1.se Hs0 H0 σ Hs H ρ _ d ρ1 R p1 e1 _ fun σ1 Hs1 H1 g1 R1 => ?_⟩
        exact h2.se Hs0 H0 σ1 Hs1 H1 ρ1 _ r ρ' R1 (p2.mono g1) hf Q fun σ2 Hs2 H2 g2 R2 => q σ2 Hs2 H2 (g1.trans g2) R2⟩
theorem dx_tup {es : List Expr} {k : Nat} {u : TGs} {fs : List D → Ev → Option Ev} {n : Nat} (hc : X.calm = true) (h : DXs X rc es u fs)
    (hn : (assignEach es X.env).length = n := by rfl) (hst : (assignEach es X.env).findIdx? (·.1) = none := by rfl) : DX X rc (.Tuple es k pos) (gTup X.K n u) (gtTup n fs) := ⟨pg_tup hc h.pg hn hst, fun Hs0 H0 σ Hs H ρ v d ρ' R hp hf Q q => by
  cases d with
  | tuple ds =>
    simp only [gtTup] at hf
    by_cases hl : ds.length = n
    · rw [if_pos hl] at hf
      obtain ⟨a, xs, rfl, h1, h2⟩ := hp.tup_inv
      exact ⟨a, xs, rfl, seqT_same R.same h1, by rw [h2.length]; exact hl, h.se Hs0 H0 σ Hs H ρ xs ds ρ' R h2 hf Q q⟩
    · rw [if_neg hl] at hf; cases hf
  | _ => cases hf⟩
/-- x[i] = .. -/
def gtSub (i : Nat) (fi : MM D) (d : D) (ρ : Ev) : Option Ev := match fi ρ with
  | some (.int k, r) => (match (ρ.wr r).get i with
    | .o ds => (match ixN ds.length k with
      | some j => some ((ρ.wr r).set i (.o (ds.set j d)))
      | none => none)
    | _ => none)
  | _ => none
theorem dx_sub (hi : DE X rc e te f) (hN : X.N[i]? = some x := by rfl) (hv : Vis X.env.scope x := by first | exact Or.inl rfl | exact Or.inr (Or.inl rfl) | exact Or.inr (Or.inr rfl)) (hd : (x == ("__debug__" : Str)) = false := by decide)
    (hcd : (x == ("__classdict__" : Str)) = false := by decide)
    (ha : ∀ v, assign (.Subscript (.Name x p) e pos) X.env v = (do
      let ov ← holding [v] (eval (.Name x p) X.env)
      let iv ← holding [v, ov] (eval e X.env)
      standAt pos
      holding [v, ov, iv] (setItem ov iv v)
      release [v, ov, iv] []) := by intro _; rfl) : DX X rc (.Subscript (.Name x p) e pos) (gSub (tVar i) te rSetL) (gtSub i f) := ⟨pg_sub (pe_var hN hv hd hcd) hi.pe set_list ha, fun Hs0 H0 σ Hs H ρ v d ρ' R hp hf Q q => by
  unfold gtSub at hf
  cases e1 : f ρ with
  | none => rw [e1] at hf; cases hf
  | some pr =>
    obtain ⟨kd, r⟩ := pr
    rw [e1] at hf
    cases kd with
    | int k =>
      simp only at hf
      cases e2 : (ρ.wr r).get i with
      | o ds =>
        rw [e2] at hf
        simp only at hf
        cases e3 : ixN ds.length k with
        | none => rw [e3] at hf; cases hf
        | some j =>
          rw [e3] at hf
          cases hf
          have hs := R.sl i
          have e2' : ρ.get i = .o ds := e2
          rw [e2'] at hs
          obtain ⟨pp, vs, h1, h2, h3, h4, h5, h6⟩ := hs
          refine ⟨_, h1, ?_⟩
          refine hi.se Hs0 H0 σ Hs H ρ R _ r e1 _ fun y Hs1 H1 ex w1 p1 => ?_
          have R1 := R.ext' ex w1
          refine ⟨pp, vs, k, j, rfl, p1.int_inv, ex.k _ _ h5 h2, by rw [h6.length]; exact e3, ?_⟩
          exact q σ Hs1 _ ex.g (R1.upd e2 h1 ((h6.mono ex.g).set (hp.mono ex.g) j))
      | _ => rw [e2] at hf; cases hf
    | _ => cases hf⟩
def gAsg (f : MM D) (fg : D → Ev → Option Ev) : MS := fun ρ => match f ρ with
  | some (d, r) => (match fg d (ρ.wr r) with
    | some ρ' => some (.nx ρ')
    | none => none)
  | none => none
theorem ds_asg {g : TG} {fg : D → Ev → Option Ev} (he : DE X rc e te f) (hg : DX X rc tg g fg) (hs : swapsWithSole [tg] e pos.line X.env = pure false := by rfl) (hw : swappedStores [tg] e X.env = pure none := by rfl)
    (h1 : (assignEach [tg] X.env).map (·.2) = [assign tg X.env] := by rfl) : DS X rc (.Assign [tg] e pos) (tAsg te g) (gAsg f fg) := ⟨ps_asg he.pe hg.pg hs hw h1, fun Hs0 H0 σ Hs H ρ R oc hf E P => by
  unfold gAsg at hf
  cases e1 : f ρ with
  | none => rw [e1] at hf; cases hf
  | some pr =>
    obtain ⟨d, r⟩ := pr
    rw [e1] at hf
    simp only at hf
    cases e2 : fg d (ρ.wr r) with
    | none => rw [e2] at hf; cases hf
    | some ρ' =>
      rw [e2] at hf
      cases hf
      refine he.se Hs0 H0 σ Hs H ρ R d r e1 _ fun v Hs1 H1 ex w1 p1 => ?_
      exact hg.se Hs0 H0 σ Hs1 H1 _ v d ρ' (R.ext' ex w1) p1 e2 _ fun σ' Hs' H' g' R' => P σ' Hs' H' (ex.g.trans g') R'⟩
/-! ### methods of a list of one's own -/
def gAppend (i : Nat) (f : MM D) : MS := fun ρ => match f ρ with
  | some (d, r) => (match (ρ.wr r).get i with
    | .o ds => if ds.length < 1000000 then some (.nx ((ρ.wr r).set i (.o (ds ++ [d])))) else none
    | _ => none)
  | none => none
theorem ds_append {apos cpos pos p : Pos} (he : DE X rc e te f) (hN : X.N[i]? = some x := by rfl) (hv : Vis X.env.scope x := by first | exact Or.inl rfl | exact Or.inr (Or.inl rfl) | exact Or.inr (Or.inr rfl)) (hd : (x == ("__debug__" : Str)) = false := by decide)
    (hcd : (x == ("__classdict__" : Str)) = false := by decide)
    (hp : PE X (.Call (.Attribute (.Name x p) "append" apos) [e] [] cpos) (tBM X.K "list" rAppend (tVar i) (tCons te tNil)))
    (hs : swapsWith (.Call (.Attribute (.Name x p) "append" apos) [e] [] cpos) none pos.line X.env = pure false := by rfl) :
    DS X rc (.Expr (.Call (.Attribute (.Name x p) "append" apos) [e] [] cpos) pos) (tDrop (tBM X.K "list" rAppend (tVar i) (tCons te tNil))) (gAppend i f) := ⟨ps_expr hp hs, fun Hs0 H0 σ Hs H ρ R oc hf E P => by
  unfold gAppend at hf
  cases e1 : f ρ with
  | none => rw [e1] at hf; cases hf
  | some pr =>
    obtain ⟨d, r⟩ := pr
    rw [e1] at hf
    simp only at hf
    cases e2 : (ρ.wr r).get i with
    | o ds =>
      rw [e2] at hf
      simp only at hf
      by_cases hl : ds.length < 1000000
      · rw [if_pos hl] at hf
        cases hf
        have hs := R.sl i
        have e2' : ρ.get i = .o ds := e2
        rw [e2'] at hs
        obtain ⟨pp, vs, h1, h2, h3, h4, h5, h6⟩ := hs
        refine ⟨_, h1, .inl ⟨rfl, _, SqL.of h2⟩, ?_⟩
        refine he.se Hs0 H0 σ Hs H ρ R _ r e1 _ fun y Hs1 H1 ex w1 p1 => ?_
        have R1 := R.ext' ex w1
        refine ⟨pp, vs, y, rfl, rfl, ex.k _ _ h5 h2, by rw [h6.length]; exact big_lt hl, ?_⟩
        exact P σ Hs1 _ ex.g (R1.upd e2 h1 ((h6.mono ex.g).append (.cons p1 .nil)))
      · rw [if_neg hl] at hf; cases hf
    | _ => rw [e2] at hf; cases hf⟩
theorem pe_append {apos cpos p : Pos} (hx : PE X (.Name x p) (tVar i)) (he : DE X rc e te f) (hb : attributeBase (.Name x p) "append" X.env (eval (.Name x p) X.env) = eval (.Name x p) X.env := by rfl)
    (h2 : (((backTo cpos (starEach [e] X.env)).all (!·.1) && (backToKw cpos (keywordEach [] X.env)).all (·.1.isSome)) && decide (([e].length + ([] : List Keyword).length + if ([] : List Keyword).isEmpty = true then 0 else 1) < 30)) = true := by rfl)
    (h3 : (apos.endLine == cpos.line) = true := by rfl) (h4 : starEach (e :: []) X.env = (false, eval e X.env) :: starEach [] X.env := by rfl) (h5 : (backTo cpos (starEach [] X.env)).any (·.1) = false := by rfl) :
    PE X (.Call (.Attribute (.Name x p) "append" apos) [e] [] cpos) (tBM X.K "list" rAppend (tVar i) (tCons te tNil)) :=
  pe_bm PySem.F.plainAttrs_list PySem.F.slot_list_append PySem.F.type_list_append mt_append hx (pa_cons he.pe pa_nil h4) hb h2 h3 h4 h5
def gExtend (i : Nat) (f : MM D) : MS := fun ρ => match f ρ with
  | some (.list ys, r) => (match (ρ.wr r).get i with
    | .o ds => if ds.length + ys.length ≤ 1000000 then some (.nx ((ρ.wr r).set i (.o (ds ++ ys)))) else none
    | _ => none)
  | _ => none
theorem ds_extend {apos cpos pos p : Pos} (he : DB X rc m e te f) (hN : X.N[i]? = some x := by rfl) (hv : Vis X.env.scope x := by first | exact Or.inl rfl | exact Or.inr (Or.inl rfl) | exact Or.inr (Or.inr rfl))
    (hp : PE X (.Call (.Attribute (.Name x p) "extend" apos) [e] [] cpos) (tBM X.K "list" rExtend (tVar i) (tCons te tNil)))
    (hs : swapsWith (.Call (.Attribute (.Name x p) "extend" apos) [e] [] cpos) none pos.line X.env = pure false := by rfl) :
    DS X rc (.Expr (.Call (.Attribute (.Name x p) "extend" apos) [e] [] cpos) pos) (tDrop (tBM X.K "list" rExtend (tVar i) (tCons te tNil))) (gExtend i f) := ⟨ps_expr hp hs, fun Hs0 H0 σ Hs H ρ R oc hf E P => by
  unfold gExtend at hf
  cases e1 : f ρ with
  | none => rw [e1] at hf; cases hf
  | some pr =>
    obtain ⟨d, r⟩ := pr
    rw [e1] at hf
    cases d with
    | list ys =>
      simp only at hf
      cases e2 : (ρ.wr r).get i with
      | o ds =>
        rw [e2] at hf
        simp only at hf
        by_cases hl : ds.length + ys.length ≤ 1000000
        · rw [if_pos hl] at hf
          cases hf
          have hs := R.sl i
          have e2' : ρ.get i = .o ds := e2
          rw [e2'] at hs
          obtain ⟨pp, vs, h1, h2, h3, h4, h5, h6⟩ := hs
          refine ⟨_, h1, .inl ⟨rfl, _, SqL.of h2⟩, ?_⟩
          refine he.se Hs0 H0 σ Hs H ρ R _ r e1 _ fun y Hs1 H1 ex w1 p1 => ?_
          have R1 := R.ext' ex w1
          obtain ⟨q, zs, rfl, h7, h8⟩ := p1.b.lst_inv ex.s
          refine ⟨pp, q, vs, zs, rfl, rfl, ex.k _ _ h5 h2, h7, by rw [h6.length, h8.length]; exact big_line hl, ?_⟩
          exact P σ Hs1 _ ex.g (R1.upd e2 h1 ((h6.mono ex.g).append h8))
        · rw [if_neg hl] at hf; cases hf
      | _ => rw [e2] at hf; cases hf
    | _ => cases hf⟩
theorem pe_extend {apos cpos p : Pos} (hx : PE X (.Name x p) (tVar i)) (he : DB X rc m e te f) (hb : attributeBase (.Name x p) "extend" X.env (eval (.Name x p) X.env) = eval (.Name x p) X.env := by rfl)
    (h2 : (((backTo cpos (starEach [e] X.env)).all (!·.1) && (backToKw cpos (keywordEach [] X.env)).all (·.1.isSome)) && decide (([e].length + ([] : List Keyword).length + if ([] : List Keyword).isEmpty = true then 0 else 1) < 30)) = true := by rfl)
    (h3 : (apos.endLine == cpos.line) = true := by rfl) (h4 : starEach (e :: []) X.env = (false, eval e X.env) :: starEach [] X.env := by rfl) (h5 : (backTo cpos (starEach [] X.env)).any (·.1) = false := by rfl) :
    PE X (.Call (.Attribute (.Name x p) "extend" apos) [e] [] cpos) (tBM X.K "list" rExtend (tVar i) (tCons te tNil)) :=
  pe_bm PySem.F.plainAttrs_list PySem.F.slot_list_extend PySem.F.type_list_extend mt_extend hx (pa_cons he.pe pa_nil h4) hb h2 h3 h4 h5
/-! ### blocks, ifs, returns -/
variable {st : Stmt} {rest : List Stmt} {t u : TS} {g g' : MS}
def gSeq (g g' : MS) : MS := fun ρ => match g ρ with
  | some (.nx ρ') => g' ρ'
  | o => o
def gSkip : MS := fun ρ => some (.nx ρ)
theorem dss_nil : DSs X rc [] tNext gSkip := ⟨pss_nil, fun Hs0 H0 σ Hs H ρ R oc hf E P => by
  cases hf
  exact P σ Hs H (Same.refl _) R⟩
theorem dss_one (h : DS X rc st t g) : DSs X rc [st] t g := ⟨pss_one h.ps, h.se⟩
theorem sem_seq {K : PySem.W.Frag} (h1 : SemS K rc t g) (h2 : SemS K rc u g') : SemS K rc (tSeq t u) (gSeq g g') := fun Hs0 H0 σ Hs H ρ R oc hf E P => by
  unfold gSeq at hf
  cases e1 : g ρ with
  | none => rw [e1] at hf; cases hf
  | some o =>
    rw [e1] at hf
    cases o with
    | nx ρ' => exact h1 Hs0 H0 σ Hs H ρ R _ e1 _ fun σ' Hs' H' gg R' => h2 Hs0 H0 σ' Hs' H' ρ' R' oc hf E (P.weak gg)
    | ret d w => cases hf; exact h1 Hs0 H0 σ Hs H ρ R _ e1 _ P
    | bk ρ' => cases hf; exact h1 Hs0 H0 σ Hs H ρ R _ e1 _ P
    | ct ρ' => cases hf; exact h1 Hs0 H0 σ Hs H ρ R _ e1 _ P
theorem dss_cons (h1 : DS X rc st t g) (h2 : DSs X rc rest u g') : DSs X rc (st :: rest) (tSeq t u) (gSeq g g') := ⟨pss_cons h1.ps h2.ps, sem_seq h1.se h2.se⟩
def gIf (ft : MM Bool) (g g' : MS) : MS := fun ρ => match ft ρ with
  | some (b, r) => if b = true then g (ρ.wr r) else g' (ρ.wr r)
  | none => none
theorem ds_if {c : Expr} {a b : List Stmt} {tt : TT} {ft : MM Bool} (hc : DT X rc c tt ft) (ha : DSs X rc a t g) (hb : DSs X rc b u g') : DS X rc (.If c a b pos) (tIfS tt t u) (gIf ft g g') := ⟨ps_if hc.pe ha.ps hb.ps, fun Hs0 H0 σ Hs H ρ R oc hf E P => by
  unfold gIf at hf
  cases e1 : ft ρ with
  | none => rw [e1] at hf; cases hf
  | some pr =>
    obtain ⟨k, r⟩ := pr
    rw [e1] at hf
    refine hc.se Hs0 H0 σ Hs H ρ R k r e1 _ fun k' Hs1 H1 ex w1 pk => ?_
    cases pk
    cases k with
    | true => rw [if_pos rfl]; exact ha.se Hs0 H0 σ Hs1 H1 _ (R.ext' ex w1) oc hf E (P.weak ex.g)
    | false => rw [if_neg Bool.false_ne_true]; exact hb.se Hs0 H0 σ Hs1 H1 _ (R.ext' ex w1) oc hf E (P.weak ex.g)⟩
def gRet (f : MM D) : MS := fun ρ => match f ρ with
  | some (d, r) => some (.ret d r)
  | none => none
theorem ds_ret (he : DE X rc e te f) : DS X rc (.Return (some e) pos) (tRet te) (gRet f) := ⟨ps_ret he.pe, fun Hs0 H0 σ Hs H ρ R oc hf E P => by
  unfold gRet at hf
  cases e1 : f ρ with
  | none => rw [e1] at hf; cases hf
  | some pr =>
    obtain ⟨d, r⟩ := pr
    rw [e1] at hf
    cases hf
    exact he.se Hs0 H0 σ Hs H ρ R d r e1 _ fun v Hs1 H1 ex w1 p1 => P v Hs1 H1 (R.ext.trans ex) w1 p1⟩
def gDrop (f : MM D) : MS := fun ρ => match f ρ with
  | some (_, r) => some (.nx (ρ.wr r))
  | none => none
theorem ds_expr (he : DE X rc e te f) (hs : swapsWith e none pos.line X.env = pure false := by rfl) : DS X rc (.Expr e pos) (tDrop te) (gDrop f) := ⟨ps_expr he.pe hs, fun Hs0 H0 σ Hs H ρ R oc hf E P => by
  unfold gDrop at hf
  cases e1 : f ρ with
  | none => rw [e1] at hf; cases hf
  | some pr =>
    obtain ⟨d, r⟩ := pr
    rw [e1] at hf
    cases hf
    exact he.se Hs0 H0 σ Hs H ρ R d r e1 _ fun v Hs1 H1 ex w1 p1 => P σ Hs1 H1 ex.g (R.ext' ex w1)⟩
def gNone : MS := fun _ => none
theorem ds_never : DS X rc st tNever gNone := ⟨ps_never, fun Hs0 H0 σ Hs H ρ R oc hf E P => by cases hf⟩
theorem ds_pass : DS X rc (.Pass pos) tNext gSkip := ⟨ps_pass, fun Hs0 H0 σ Hs H ρ R oc hf E P => by
  cases hf
  exact P σ Hs H (Same.refl _) R⟩
/-- a list of one's own is shared from here on -/
def Ev.fz (ρ : Ev) (i : Nat) : Ev := match ρ.get i with
  | .o ds => ρ.set i (.s (.list ds))
  | _ => ρ
def gFz (i : Nat) (g : MS) : MS := fun ρ => g (ρ.fz i)
theorem Rel.fz {K : PySem.W.Frag} {Hs0 H0 Hs H : Hp} {σ : L2.St} {ρ : Ev} (R : Rel K rc Hs0 H0 σ Hs H ρ) (i : Nat) : ∃ Hs', Same Hs Hs' ∧ Rel K rc Hs0 H0 σ Hs' H (ρ.fz i) := by
  cases e : ρ.get i with
  | o ds =>
    have hs := R.sl i
    rw [e] at hs
    obtain ⟨p, vs, h1, h2, h3, h4, h5, h6⟩ := hs
    have ef : ρ.fz i = ρ.set i (.s (.list ds)) := by unfold Ev.fz; rw [e]
    have g : Same Hs (L2.upd Hs p (.lst vs)) := fun b o z => by
      rw [upd_ne (fun q => by rw [q, h3] at z; cases z)]; exact z
    have s : Same (L2.upd Hs p (.lst vs)) H := fun b o z => by
      by_cases q : b = p
      · rw [q, upd_same] at z; cases z; rw [q]; exact h2
      · rw [upd_ne q] at z; exact R.same b o z
    refine ⟨L2.upd Hs p (.lst vs), g, ?_⟩
    rw [ef]
    have hin : i < ρ.sl.length := by rw [← R.len]; exact (List.getElem?_eq_some_iff.mp h1).1
    have hl : (ρ.set i (.s (.list ds))).sl.length = ρ.sl.length := by simp [Ev.set]
    have key : ∀ j, ((ρ.set i (.s (.list ds))).get j).own → i ≠ j ∧ (ρ.get j).own := fun j h => by
      rw [Ev.get_set] at h
      by_cases hij : i = j ∧ i < ρ.sl.length
      · rw [if_pos hij] at h; exact h.elim
      · rw [if_neg hij] at h
        exact ⟨fun z => hij ⟨z, hin⟩, h⟩
    refine ⟨⟨R.ext.g.trans g, s, R.ext.k, R.ext.d, fun b hb hn => ?_⟩, R.s0, R.row, R.rn, R.scr, by rw [hl]; exact R.len, fun j => ?_, fun j k q hjk hj hk => R.dis j k q hjk (key j hj).2 (key k hk).2⟩
    · rw [upd_ne (fun z => hb (by rw [z]; exact h4))]
      exact R.ext.p b hb hn
    · rw [Ev.get_set]
      by_cases hij : i = j ∧ i < ρ.sl.length
      · rw [if_pos hij, ← hij.1]
        exact ⟨_, h1, .lst upd_same (h6.mono g)⟩
      · rw [if_neg hij]
        have nij : i ≠ j := fun z => hij ⟨z, hin⟩
        have q := R.sl j
        cases hx : ρ.get j with
        | no => trivial
        | s d => rw [hx] at q; obtain ⟨v, q1, q2⟩ := q; exact ⟨v, q1, q2.mono g⟩
        | o dj =>
          rw [hx] at q
          obtain ⟨p2, v2, f1, f2, f3, f4, f5, f6⟩ := q
          have np : p2 ≠ p := fun z => by
            subst z
            exact R.dis i j p2 nij (by rw [e]; trivial) (by rw [hx]; trivial) h1 f1
          exact ⟨p2, v2, f1, f2, by rw [upd_ne np]; exact f3, f4, f5, f6.mono g⟩
        | b d => rw [hx] at q; obtain ⟨v, q1, q2, q3⟩ := q; exact ⟨v, q1, q2, q3.monoS g⟩
        | row => rw [hx] at q; exact q
        | ob a fs =>
          rw [hx] at q
          obtain ⟨C, dx, fvs, q1, q2, q3, q4, q5⟩ := q
          refine ⟨C, dx, fvs, q1, q2, q3, q4, fun f k d hf => ?_⟩
          obtain ⟨v, g1, g2, g3, g4, g5⟩ := q5 f k d hf
          exact ⟨v, g1, g2, g3, g4.monoS g, fun z => (g5 z).mono g⟩
  | _ =>
    have ef : ρ.fz i = ρ := by unfold Ev.fz; rw [e]
    exact ⟨Hs, Same.refl _, by rw [ef]; exact R⟩
theorem ds_fz (i : Nat) (h : DS X rc st t g) : DS X rc st t (gFz i g) := ⟨h.ps, fun Hs0 H0 σ Hs H ρ R oc hf E P => by
  obtain ⟨Hs', g', R'⟩ := R.fz i
  exact h.se Hs0 H0 σ Hs' H _ R' oc hf E (P.weak g')⟩
/-! ### for, while -/
def forGo (fg : D → Ev → Option Ev) (body : MS) : List D → MS
  | [] => fun ρ => some (.nx ρ)
  | d :: ds => fun ρ => match fg d ρ with
    | none => none
    | some ρ1 => match body ρ1 with
      | some (.nx ρ2) => forGo fg body ds ρ2
      | some (.ct ρ2) => forGo fg body ds ρ2
      | some (.bk ρ2) => some (.nx ρ2)
      | some (.ret d w) => some (.ret d w)
      | none => none
def gFor (fi : MM (List D)) (fg : D → Ev → Option Ev) (body : MS) : MS := fun ρ => match fi ρ with
  | some (ds, r) => forGo fg body ds (ρ.wr r)
  | none => none
theorem ds_for {iter : Expr} {body : List Stmt} {wi : TI} {gg : TG} {vs : List Nat} {fi : MM (List D)} {fg : D → Ev → Option Ev} (hp : PassesOwn (model X.prog X.w) X.A X.env X.xe) (hc : X.calm = true) (hi : DI X rc true tg iter wi fi) (hg : DG X rc vs tg gg fg) (hb : DSs X rc body t g)
    (hs : ∀ x, foldedSetIterable iter X.env x = pure x := by intro _; rfl) : DS X rc (.For tg iter body [] pos) (tFor wi gg t) (gFor fi fg g) := ⟨ps_for hp hc hi.pi hg.pg hb.ps hs, fun Hs0 H0 σ Hs H ρ R oc hf E P => by
  unfold gFor at hf
  cases e1 : fi ρ with
  | none => rw [e1] at hf; cases hf
  | some pr =>
    obtain ⟨ds, r⟩ := pr
    rw [e1] at hf
    refine hi.se Hs0 H0 σ Hs H ρ R ds r e1 _ fun J Hs1 H1 ex w1 W => ?_
    have R1 := R.ext' ex w1
    refine ⟨fun i n σ2 H2 => n = ds.length - i ∧ i ≤ ds.length ∧ ∃ Hs2 ρ2, Same Hs1 Hs2 ∧ Rel X.K rc Hs0 H0 σ2 Hs2 H2 ρ2 ∧ forGo fg g (ds.drop i) ρ2 = some oc, ⟨ds.length, by simp, Nat.zero_le _, Hs1, _, Same.refl _, R1, hf⟩, ?_⟩
    rintro i n σ2 H2 ⟨rfl, hin, Hs2, ρ2, g2, R2, hgo⟩
    have kp : Kp rc H1 H2 ∨ true = true ∧ Kp rc H0 H2 := .inr ⟨rfl, R2.ext.k⟩
    by_cases hlt : i < ds.length
    · refine .inr ⟨W.go i Hs2 H2 g2 R2.same kp hlt, fun σ3 H3 => i + 1 ≤ ds.length ∧ ∃ Hs3 ρ3, Same Hs1 Hs3 ∧ Rel X.K rc Hs0 H0 σ3 Hs3 H3 ρ3 ∧ forGo fg g (ds.drop (i + 1)) ρ3 = some oc, fun σ' H' q => ⟨ds.length - (i + 1), by omega, rfl, q⟩, fun x H3 hy => ?_⟩
      obtain ⟨Hs3, d, e3, hd, hx⟩ := W.yld i Hs2 H2 x H3 g2 R2.same kp hlt hy
      have hgd : ds.drop i = d :: ds.drop (i + 1) := by
        rw [List.drop_eq_getElem_cons hlt]
        have := List.getElem?_eq_getElem hlt
        rw [this] at hd
        cases hd
        rfl
      rw [hgd] at hgo
      simp only [forGo] at hgo
      have R3 : Rel X.K rc Hs0 H0 σ2 Hs3 H3 (ρ2.wr ρ2.row) := R2.ext' e3.of_none (R2.row.keep e3.same_none)
      have R3 : Rel X.K rc Hs0 H0 σ2 Hs3 H3 ρ2 := R3
      have g3 : Same Hs1 Hs3 := g2.trans e3.g
      cases hg1 : fg d ρ2 with
      | none => rw [hg1] at hgo; cases hgo
      | some ρ3 =>
        rw [hg1] at hgo
        refine hg.se Hs0 H0 σ2 Hs3 H3 ρ2 x d ρ3 R3 hx hg1 _ fun σ3 R3' _ _ => ?_
        cases hb1 : g ρ3 with
        | none => simp only [hb1] at hgo; cases hgo
        | some o =>
          refine hb.se Hs0 H0 σ3 Hs3 H3 ρ3 R3' o hb1 _ ?_
          cases o with
          | nx ρ4 =>
            simp only [hb1] at hgo
            exact fun σ' Hs' H' g4 R4 => ⟨hlt, Hs', ρ4, g3.trans g4, R4, hgo⟩
          | ct ρ4 =>
            simp only [hb1] at hgo
            exact fun σ' Hs' H' g4 R4 => ⟨hlt, Hs', ρ4, g3.trans g4, R4, hgo⟩
          | bk ρ4 =>
            simp only [hb1] at hgo
            cases hgo
            exact fun σ' Hs' H' g4 R4 => P σ' Hs' H' (ex.g.trans (g3.trans g4)) R4
          | ret d w =>
            simp only [hb1] at hgo
            cases hgo
            exact P
    · have ei : i = ds.length := by omega
      subst ei
      rw [List.drop_length] at hgo
      cases hgo
      exact .inl ⟨W.stop Hs2 H2 g2 R2.same kp, P σ2 Hs2 H2 (ex.g.trans g2) R2⟩⟩
def whGo (ft : MM Bool) (body : MS) : Nat → MS
  | 0 => fun _ => none
  | n + 1 => fun ρ => match ft ρ with
    | none => none
    | some (b, r) => if b = true then (match body (ρ.wr r) with
        | some (.nx ρ2) => whGo ft body n ρ2
        | some (.ct ρ2) => whGo ft body n ρ2
        | some (.bk ρ2) => some (.nx ρ2)
        | some (.ret d w) => some (.ret d w)
        | none => none)
      else some (.nx (ρ.wr r))
def gWhile (fuel : Ev → Nat) (ft : MM Bool) (body : MS) : MS := fun ρ => whGo ft body (fuel ρ) ρ
theorem ds_while {c : Expr} {body : List Stmt} {tt : TT} {ft : MM Bool} (fuel : Ev → Nat) (hp : PassesOwn (model X.prog X.w) X.A X.env X.xe) (hc : DT X rc c tt ft) (hb : DSs X rc body t g) : DS X rc (.While c body [] pos) (tWhile tt t) (gWhile fuel ft g) := ⟨ps_while hp hc.pe hb.ps, fun Hs0 H0 σ Hs H ρ R oc hf E P => by
  unfold gWhile at hf
  refine ⟨fun n σ2 H2 => ∃ Hs2 ρ2, Same Hs Hs2 ∧ Rel X.K rc Hs0 H0 σ2 Hs2 H2 ρ2 ∧ whGo ft g n ρ2 = some oc, ⟨fuel ρ, Hs, ρ, Same.refl _, R, hf⟩, ?_⟩
  rintro n σ2 H2 ⟨Hs2, ρ2, g2, R2, hgo⟩
  cases n with
  | zero => cases hgo
  | succ n =>
    simp only [whGo] at hgo
    cases ht : ft ρ2 with
    | none => rw [ht] at hgo; cases hgo
    | some pr =>
      obtain ⟨b, r⟩ := pr
      rw [ht] at hgo
      refine hc.se Hs0 H0 σ2 Hs2 H2 ρ2 R2 b r ht _ fun b' Hs3 H3 ex w3 pb => ?_
      cases pb
      have R3 := R2.ext' ex w3
      have g3 := g2.trans ex.g
      cases b with
      | true =>
        simp only [if_true] at hgo
        rw [if_pos rfl]
        refine ⟨fun σ4 H4 => ∃ Hs4 ρ4, Same Hs Hs4 ∧ Rel X.K rc Hs0 H0 σ4 Hs4 H4 ρ4 ∧ whGo ft g n ρ4 = some oc, fun σ' H' q => ⟨n, Nat.lt_succ_self n, q⟩, ?_⟩
        cases hb1 : g (ρ2.wr r) with
        | none => simp only [hb1] at hgo; cases hgo
        | some o =>
          refine hb.se Hs0 H0 σ2 Hs3 H3 _ R3 o hb1 _ ?_
          cases o with
          | nx ρ4 =>
            simp only [hb1] at hgo
            exact fun σ' Hs' H' g4 R4 => ⟨Hs', ρ4, g3.trans g4, R4, hgo⟩
          | ct ρ4 =>
            simp only [hb1] at hgo
            exact fun σ' Hs' H' g4 R4 => ⟨Hs', ρ4, g3.trans g4, R4, hgo⟩
          | bk ρ4 =>
            simp only [hb1] at hgo
            cases hgo
            exact fun σ' Hs' H' g4 R4 => P σ' Hs' H' (g3.trans g4) R4
          | ret d w =>
            simp only [hb1] at hgo
            cases hgo
            exact P
      | false =>
        simp only [Bool.false_eq_true, if_false] at hgo
        rw [if_neg Bool.false_ne_true]
        cases hgo
        exact P σ2 Hs3 H3 g3 R3⟩
end
end DL

namespace DL
open PySem PySem.Spec PyProof.Rows L2
/-! ### two names at once -/
def FrOk (K : PySem.W.Frag) (H Hs' H' : Hp) (v : V) : Sl → Prop
  | .s d => Rp K Hs' v d
  | .o ds => ∃ p ws, v = .ref p ∧ H p = none ∧ H' p = some (.lst ws) ∧ Hs' p = none ∧ RpAll K Hs' ws ds
  | _ => False
structure DV (X : Cx) (rc : Rc) (e : Expr) (t : TE) (f : MM Sl) : Prop where
  pe : PE X e t
  se : ∀ Hs0 H0 σ Hs H ρ, Rel X.K rc Hs0 H0 σ Hs H ρ → ∀ x r, f ρ = some (x, r) → ∀ Q : V → Hp → Prop, (∀ v Hs' H', Ext rc Hs H Hs' H' → RowAt X.K rc H' r → FrOk X.K H Hs' H' v x → Q v H') → t σ H Q
section
variable {X : Cx} {rc : Rc} {m m' : Bool} {e e2 tg a b c : Expr} {pos p tpos : Pos} {te te2 ta tb : TE} {f f2 : MM D} {fl : MM (List D)} {fa fb : MM Sl} {i j : Nat} {x y : Str} {es : List Expr} {t : TA}
theorem DE.v (h : DE X rc e te f) : DV X rc e te (mBind f fun d => mRet (.s d)) := ⟨h.pe, fun Hs0 H0 σ Hs H ρ R x r hf Q q => by
  obtain ⟨d, r1, h1, h2⟩ := mBind_some hf
  cases h2
  exact h.se Hs0 H0 σ Hs H ρ R d _ h1 Q fun v Hs' H' e w p => q v Hs' H' e w p⟩
theorem DF.v (h : DF X rc e te fl) : DV X rc e te (mBind fl fun d => mRet (.o d)) := ⟨h.pe, fun Hs0 H0 σ Hs H ρ R x r hf Q q => by
  obtain ⟨d, r1, h1, h2⟩ := mBind_some hf
  cases h2
  exact h.new Hs0 H0 σ Hs H ρ R d _ h1 Q fun v Hs' H' e w p => q v Hs' H' e w p⟩
theorem FrOk.ext {K : PySem.W.Frag} {H Hs1 H1 Hs2 H2 : Hp} {v : V} {s : Sl} (nrow : ∀ p, rc.ad = some p → H p ≠ none) (h : FrOk K H Hs1 H1 v s) (ex : Ext rc Hs1 H1 Hs2 H2) : FrOk K H Hs2 H2 v s := by
  cases s with
  | s d => exact Rp.mono ex.g (show Rp K Hs1 v d from h)
  | o ds =>
    obtain ⟨p, ws, h1, h2, h3, h4, h5⟩ := h
    exact ⟨p, ws, h1, h2, ex.k _ _ (fun z => nrow p z h2) h3, ex.p _ (by rw [h3]; simp) h4, h5.mono ex.g⟩
  | _ => exact h.elim
theorem Rel.setV {K : PySem.W.Frag} {Hs0 H0 Hs H Hp' : Hp} {σ : L2.St} {ρ : Ev} (R : Rel K rc Hs0 H0 σ Hs H ρ) {i : Nat} {v : V} {s : Sl} (h0 : ∀ p, Hp' p = none → H0 p = none) (h : FrOk K Hp' Hs H v s) (nw : s.own → ∀ j, (ρ.get j).own → i ≠ j → σ[j]? ≠ some (some v)) :
    Rel K rc Hs0 H0 (σ.set i (some v)) Hs H (ρ.set i s) := by
  cases s with
  | s d => exact R.set (show Rp K Hs v d from h)
  | o ds =>
    obtain ⟨p, ws, rfl, h2, h3, h4, h5⟩ := h
    exact R.setO h3 h4 (h0 p h2) h5 (nw trivial)
  | _ => exact h.elim
def gPar (i j : Nat) (fa fb : MM Sl) : MS := fun ρ => match fa ρ with
  | some (x, r1) => (match fb (ρ.wr r1) with
    | some (y, r2) => some (.nx (((ρ.wr r2).set i x).set j y))
    | none => none)
  | none => none
theorem ds_par {px py pt : Pos} {kt k2 : Nat} {pt2 : Pos} (hc : X.calm = true) (hN : X.N.Nodup) (ha : DV X rc a ta fa) (hb : DV X rc b tb fb) (hij : i ≠ j) (hi : X.N[i]? = some x := by rfl) (hj : X.N[j]? = some y := by rfl)
    (hx : X.env.scope.names.lookup x = some .local := by rfl) (hy : X.env.scope.names.lookup y = some .local := by rfl)
    (h1 : starEach [a, b] X.env = (false, eval a X.env) :: starEach [b] X.env := by rfl) (h2 : starEach [b] X.env = (false, eval b X.env) :: starEach [] X.env := by rfl)
    (hw : swappedStores [.Tuple [.Name x px, .Name y py] kt pt] (.Tuple [a, b] k2 pt2) X.env = pure (some [x, y]) := by rfl)
    (hs : swapsWithSole [.Tuple [.Name x px, .Name y py] kt pt] (.Tuple [a, b] k2 pt2) pos.line X.env = pure false := by rfl) :
    DS X rc (.Assign [.Tuple [.Name x px, .Name y py] kt pt] (.Tuple [a, b] k2 pt2) pos) (tPar i j (tCons ta (tCons tb tNil))) (gPar i j fa fb) := ⟨ps_par hc hN hi hj hij hx hy (pa_cons ha.pe (pa_cons hb.pe pa_nil h2) h1) hw hs, fun Hs0 H0 σ Hs H ρ R oc hf E P => by
  unfold gPar at hf
  cases e1 : fa ρ with
  | none => rw [e1] at hf; cases hf
  | some pr =>
    obtain ⟨xa, r1⟩ := pr
    rw [e1] at hf
    simp only at hf
    cases e2 : fb (ρ.wr r1) with
    | none => rw [e2] at hf; cases hf
    | some pr =>
      obtain ⟨xb, r2⟩ := pr
      rw [e2] at hf
      cases hf
      refine ha.se Hs0 H0 σ Hs H ρ R xa r1 e1 _ fun v Hs1 H1 ex1 w1 p1 => ?_
      have R1 := R.ext' ex1 w1
      refine hb.se Hs0 H0 σ Hs1 H1 _ R1 xb r2 e2 _ fun u Hs2 H2 ex2 w2 p2 => ?_
      refine ⟨v, u, rfl, ?_⟩
      have nrow : ∀ p, rc.ad = some p → H p ≠ none := fun p z => R.ext.d p (R.rn p z).1
      have p1' := p1.ext nrow ex2
      have R2 : Rel X.K rc Hs0 H0 σ Hs2 H2 (ρ.wr r2) := R1.ext' ex2 w2
      have RA := R2.setV (i := i) (fun p z => R.fresh0 z) p1' (fun ho k hk hik => by
        cases xa with
        | o ds =>
          obtain ⟨q, ws, rfl, hq, _⟩ := p1'
          exact R.notOwn hq k hk
        | _ => exact ho.elim)
      refine P _ Hs2 H2 (ex1.g.trans ex2.g) (RA.setV (i := j) (fun p z => R1.fresh0 z) p2 fun ho k hk hjk => ?_)
      cases xb with
      | o ds =>
        obtain ⟨q, ws, rfl, hq, _⟩ := p2
        by_cases hik : i = k
        · subst hik
          by_cases hil : i < σ.length
          · rw [List.getElem?_set_self hil]
            intro z
            cases z
            cases xa with
            | o da =>
              obtain ⟨q2, ws2, e3, h3, h4, _⟩ := p1
              cases e3
              rw [hq] at h4; cases h4
            | s da =>
              rw [Ev.get_set] at hk
              by_cases hc : i = i ∧ i < (ρ.wr r2).sl.length
              · rw [if_pos hc] at hk; exact hk.elim
              · exact hc ⟨rfl, by rw [← R2.len]; exact hil⟩
            | _ => exact p1.elim
          · rw [List.getElem?_eq_none (by rw [List.length_set]; omega)]; simp
        · rw [List.getElem?_set_ne hik]
          have hk' : ((ρ.wr r2).get k).own := by
            rw [Ev.get_set] at hk
            by_cases hc : i = k ∧ i < (ρ.wr r2).sl.length
            · exact absurd hc.1 hik
            · rw [if_neg hc] at hk; exact hk
          exact R1.notOwn hq k hk'
      | _ => exact ho.elim⟩
def gPar3 (i j l : Nat) (fa fb fc : MM D) : MS := fun ρ => match fa ρ with
  | some (x, r1) => (match fb (ρ.wr r1) with
    | some (y, r2) => (match fc (ρ.wr r2) with
      | some (z, r3) => some (.nx ((((ρ.wr r3).set i (.s x)).set j (.s y)).set l (.s z)))
      | none => none)
    | none => none)
  | none => none
theorem ds_par3 {fa fb fc : MM D} {tc : TE} {l : Nat} {z : Str} {px py pz pt : Pos} {kt k2 : Nat} {pt2 : Pos} (hc : X.calm = true) (hN : X.N.Nodup) (ha : DE X rc a ta fa) (hb : DE X rc b tb fb) (hcc : DE X rc c tc fc) (hij : i ≠ j) (hil : i ≠ l) (hjl : j ≠ l) (hi : X.N[i]? = some x := by rfl) (hj : X.N[j]? = some y := by rfl) (hl : X.N[l]? = some z := by rfl)
    (hx : X.env.scope.names.lookup x = some .local := by rfl) (hy : X.env.scope.names.lookup y = some .local := by rfl) (hz : X.env.scope.names.lookup z = some .local := by rfl)
    (h1 : starEach [a, b, c] X.env = (false, eval a X.env) :: starEach [b, c] X.env := by rfl) (h2 : starEach [b, c] X.env = (false, eval b X.env) :: starEach [c] X.env := by rfl) (h3 : starEach [c] X.env = (false, eval c X.env) :: starEach [] X.env := by rfl)
    (hw : swappedStores [.Tuple [.Name x px, .Name y py, .Name z pz] kt pt] (.Tuple [a, b, c] k2 pt2) X.env = pure (some [x, y, z]) := by rfl)
    (hs : swapsWithSole [.Tuple [.Name x px, .Name y py, .Name z pz] kt pt] (.Tuple [a, b, c] k2 pt2) pos.line X.env = pure false := by rfl) :
    DS X rc (.Assign [.Tuple [.Name x px, .Name y py, .Name z pz] kt pt] (.Tuple [a, b, c] k2 pt2) pos) (tPar3 i j l (tCons ta (tCons tb (tCons tc tNil)))) (gPar3 i j l fa fb fc) := ⟨ps_par3 hc hN hi hj hl hij hil hjl hx hy hz (pa_cons ha.pe (pa_cons hb.pe (pa_cons hcc.pe pa_nil h3) h2) h1) hw hs, fun Hs0 H0 σ Hs H ρ R oc hf E P => by
  unfold gPar3 at hf
  cases e1 : fa ρ with
  | none => rw [e1] at hf; cases hf
  | some pr =>
    obtain ⟨xa, r1⟩ := pr
    rw [e1] at hf
    simp only at hf
    cases e2 : fb (ρ.wr r1) with
    | none => rw [e2] at hf; cases hf
    | some pr =>
      obtain ⟨xb, r2⟩ := pr
      rw [e2] at hf
      simp only at hf
      cases e3 : fc (ρ.wr r2) with
      | none => rw [e3] at hf; cases hf
      | some pr =>
        obtain ⟨xc, r3⟩ := pr
        rw [e3] at hf
        cases hf
        refine ha.se Hs0 H0 σ Hs H ρ R xa r1 e1 _ fun v Hs1 H1 ex1 w1 p1 => ?_
        have R1 := R.ext' ex1 w1
        refine hb.se Hs0 H0 σ Hs1 H1 _ R1 xb r2 e2 _ fun u Hs2 H2 ex2 w2 p2 => ?_
        have R2 : Rel X.K rc Hs0 H0 σ Hs2 H2 (ρ.wr r2) := R1.ext' ex2 w2
        refine hcc.se Hs0 H0 σ Hs2 H2 _ R2 xc r3 e3 _ fun u3 Hs3 H3 ex3 w3 p3 => ?_
        have R3 : Rel X.K rc Hs0 H0 σ Hs3 H3 (ρ.wr r3) := R2.ext' ex3 w3
        exact ⟨v, u, u3, rfl, P _ Hs3 H3 ((ex1.g.trans ex2.g).trans ex3.g) (((R3.set (p1.mono (ex2.g.trans ex3.g))).set (p2.mono ex3.g)).set p3)⟩⟩
/-! ### calls of built-ins -/
def CallS (K : PySem.W.Frag) (rc : Rc) (r : List V → Hp → VK → Prop) (op : D → Option D) : Prop := ∀ Hs H x a d, Same Hs H → Bp K Hs H x a → op a = some d →
  ∀ Q : VK, (∀ v Hs' H', Ext rc Hs H Hs' H' → (∀ w, RowAt K rc H w → RowAt K rc H' w) → Rp K Hs' v d → Q v H') → r [x] H Q
theorem sem_call1 {K : PySem.W.Frag} {r : List V → Hp → VK → Prop} {op : D → Option D} (hs : CallS K rc r op) (ha : Sem K rc (PB_ K rc m) te f) : Sem K rc (PE_ K) (tCB r (tCons te tNil)) (mUn op f) := fun Hs0 H0 σ Hs H ρ R d w hf Q q => by
  obtain ⟨a, r1, h1, h2⟩ := mBind_some hf
  obtain ⟨h3, rfl⟩ := mO_some h2
  refine ha Hs0 H0 σ Hs H ρ R a _ h1 _ fun v Hs1 H1 ex1 w1 p1 => ?_
  exact hs Hs1 H1 v a d ex1.s p1.b h3 Q fun v Hs' H' ex2 w2 p2 => q v Hs' H' (ex1.trans ex2) (w2 _ w1) p2
theorem de_callB {id : String} {r : List V → Hp → VK → Prop} {op : D → Option D} (hc : CallR X (.builtin id) r) (hs : CallS X.K rc r op) (ha : DB X rc m a te f) (hm : X.mg x = none) (hv : bootBuiltins x = some (.builtin id)) (hg : Gl X x := by rfl) (hn : x ≠ "__name__" := by decide) (hdb : (x == ("__debug__" : Str)) = false := by decide)
    (he : starEach (a :: []) X.env = (false, eval a X.env) :: starEach [] X.env := by rfl) (hpl : (backTo pos (starEach [] X.env)).any (·.1) = false := by rfl) : DE X rc (.Call (.Name x p) [a] [] pos) (tCB r (tCons te tNil)) (mUn op f) :=
  ⟨L2.pe_callB hc hg hm hv (pa_cons ha.pe pa_nil he) hn hdb he hpl, sem_call1 hs ha.se⟩
theorem de_callTy {T : String} {r : List V → Hp → VK → Prop} {op : D → Option D} (hc : CallR X (.type T) r) (hs : CallS X.K rc r op) (ha : DB X rc m a te f) (hm : X.mg x = none) (hv : bootBuiltins x = some (.type T)) (hg : Gl X x := by rfl) (hn : x ≠ "__name__" := by decide) (hdb : (x == ("__debug__" : Str)) = false := by decide)
    (he : starEach (a :: []) X.env = (false, eval a X.env) :: starEach [] X.env := by rfl) (hpl : (backTo pos (starEach [] X.env)).any (·.1) = false := by rfl) : DE X rc (.Call (.Name x p) [a] [] pos) (tCB r (tCons te tNil)) (mUn op f) :=
  ⟨L2.pe_callTy hc hg hm hv (pa_cons ha.pe pa_nil he) hn hdb he hpl, sem_call1 hs ha.se⟩
def Call2S (K : PySem.W.Frag) (rc : Rc) (r : List V → Hp → VK → Prop) (op : D → D → Option D) : Prop := ∀ Hs H x y a b d, Same Hs H → Bp K Hs H x a → Bp K Hs H y b → op a b = some d →
  ∀ Q : VK, (∀ v Hs' H', Ext rc Hs H Hs' H' → (∀ w, RowAt K rc H w → RowAt K rc H' w) → Rp K Hs' v d → Q v H') → r [x, y] H Q
theorem de_callB2 {id : String} {r : List V → Hp → VK → Prop} {op : D → D → Option D} (hc : CallR X (.builtin id) r) (hs : Call2S X.K rc r op) (ha : DB X rc m a te f) (hb : DB X rc m' b te2 f2) (hm : X.mg x = none) (hv : bootBuiltins x = some (.builtin id)) (hg : Gl X x := by rfl) (hn : x ≠ "__name__" := by decide) (hdb : (x == ("__debug__" : Str)) = false := by decide)
    (he : starEach [a, b] X.env = (false, eval a X.env) :: starEach [b] X.env := by rfl) (he2 : starEach [b] X.env = (false, eval b X.env) :: starEach [] X.env := by rfl) (hpl : (backTo pos (starEach [b] X.env)).any (·.1) = false := by rfl) : DE X rc (.Call (.Name x p) [a, b] [] pos) (tCB r (tCons te (tCons te2 tNil))) (mOp op f f2) :=
  ⟨L2.pe_callB hc hg hm hv (pa_cons ha.pe (pa_cons hb.pe pa_nil he2) he) hn hdb he hpl, fun Hs0 H0 σ Hs H ρ R d w hf Q q => by
    obtain ⟨a, r1, h1, h2⟩ := mBind_some hf
    obtain ⟨b, r2, h3, h4⟩ := mBind_some h2
    obtain ⟨h5, rfl⟩ := mO_some h4
    refine ha.se Hs0 H0 σ Hs H ρ R a r1 h1 _ fun v Hs1 H1 ex1 w1 p1 => ?_
    refine hb.se Hs0 H0 σ Hs1 H1 _ (R.ext' ex1 w1) b _ h3 _ fun u Hs2 H2 ex2 w2 p2 => ?_
    exact hs Hs2 H2 v u a b d ex2.s (p1.ext ex2).b p2.b h5 Q fun v Hs' H' ex3 w3 p3 => q v Hs' H' ((ex1.trans ex2).trans ex3) (w3 _ w2) p3⟩
section
variable {K : PySem.W.Frag}
def dLen (d : D) : Option D := match dItems d with
  | some ds => some (.int (ds.length : Nat))
  | none => none
theorem c_len : CallS X.K rc (fun xs H Q => ∃ p ys, xs = [.ref p] ∧ (SqL X.K H p ys ∨ SqT X.K H p ys) ∧ Q (.int ys.length) H) dLen := fun Hs H x a d e hx ho Q q => by
  unfold dLen at ho
  cases a with
  | list ds =>
    cases ho
    obtain ⟨p, vs, rfl, h1, h2⟩ := hx.lst_inv e
    refine ⟨p, vs, rfl, .inl (SqL.of h1), ?_⟩
    rw [h2.length]
    exact q _ Hs H (.refl e) (fun _ w => w) (.int _)
  | tuple ds =>
    cases ho
    obtain ⟨p, vs, rfl, h1, h2⟩ := hx.tup_inv
    refine ⟨p, vs, rfl, .inr (seqT_same e h1), ?_⟩
    rw [h2.length]
    exact q _ Hs H (.refl e) (fun _ w => w) (.int _)
  | _ => cases ho
def dAbs : D → Option D
  | .int i => some (.int (if i < 0 then -i else i))
  | _ => none
theorem c_abs : CallS K rc (fun xs H Q => ∃ i, xs = [.int i] ∧ Q (.int (if i < 0 then -i else i)) H) dAbs := fun Hs H x a d e hx ho Q q => by
  cases a <;> cases ho
  exact ⟨_, by rw [hx.int_inv], q _ Hs H (.refl e) (fun _ w => w) (.int _)⟩
def dInt : D → Option D
  | .int i => some (.int i)
  | _ => none
theorem c_int : CallS K rc (fun xs H Q => (∃ i, xs = [.int i] ∧ Q (.int i) H) ∨ ∃ k, xs = [.bl k] ∧ Q (.int (if k then 1 else 0)) H) dInt := fun Hs H x a d e hx ho Q q => by
  cases a <;> cases ho
  exact .inl ⟨_, by rw [hx.int_inv], q _ Hs H (.refl e) (fun _ w => w) (.int _)⟩
def dMax2 : D → D → Option D
  | .int i, .int j => some (.int (if j > i then j else i))
  | _, _ => none
def dMin2 : D → D → Option D
  | .int i, .int j => some (.int (if j < i then j else i))
  | _, _ => none
theorem c_max2 : Call2S K rc (fun xs H Q => ∃ i j, xs = [.int i, .int j] ∧ Q (.int (if j > i then j else i)) H) dMax2 := fun Hs H x y a b d e hx hy ho Q q => by
  cases a <;> cases b <;> cases ho
  exact ⟨_, _, by rw [hx.int_inv, hy.int_inv], q _ Hs H (.refl e) (fun _ w => w) (.int _)⟩
theorem c_min2 : Call2S K rc (fun xs H Q => ∃ i j, xs = [.int i, .int j] ∧ Q (.int (if j < i then j else i)) H) dMin2 := fun Hs H x y a b d e hx hy ho Q q => by
  cases a <;> cases b <;> cases ho
  exact ⟨_, _, by rw [hx.int_inv, hy.int_inv], q _ Hs H (.refl e) (fun _ w => w) (.int _)⟩
def toInts : List D → Option (List Int)
  | [] => some []
  | .int i :: r => (match toInts r with
    | some l => some (i :: l)
    | none => none)
  | _ => none
theorem toInts_eq : ∀ {ds : List D} {ns : List Int}, toInts ds = some ns → ds = ns.map .int
  | [], ns, h => by cases h; rfl
  | .int i :: r, ns, h => by
    simp only [toInts] at h
    cases e : toInts r with
    | none => rw [e] at h; cases h
    | some l =>
      rw [e] at h
      cases h
      rw [toInts_eq e]
      rfl
  | .none :: _, _, h => by cases h
  | .bool _ :: _, _, h => by cases h
  | .str _ :: _, _, h => by cases h
  | .list _ :: _, _, h => by cases h
  | .tuple _ :: _, _, h => by cases h
  | .dict _ :: _, _, h => by cases h
def toBls : List D → Option (List Bool)
  | [] => some []
  | .bool i :: r => (match toBls r with
    | some l => some (i :: l)
    | none => none)
  | _ => none
theorem toBls_eq : ∀ {ds : List D} {ns : List Bool}, toBls ds = some ns → ds = ns.map .bool
  | [], ns, h => by cases h; rfl
  | .bool i :: r, ns, h => by
    simp only [toBls] at h
    cases e : toBls r with
    | none => rw [e] at h; cases h
    | some l =>
      rw [e] at h
      cases h
      rw [toBls_eq e]
      rfl
  | .none :: _, _, h => by cases h
  | .int _ :: _, _, h => by cases h
  | .str _ :: _, _, h => by cases h
  | .list _ :: _, _, h => by cases h
  | .tuple _ :: _, _, h => by cases h
  | .dict _ :: _, _, h => by cases h
def dSum : D → Option D
  | .list ds => (match toInts ds with
    | some ns => some (.int ns.sum)
    | none => none)
  | .tuple ds => (match toInts ds with
    | some ns => some (.int ns.sum)
    | none => none)
  | _ => none
/-- sum(x) of a list or a tuple of ints -/
def rSumA (K : PySem.W.Frag) : List V → Hp → VK → Prop := fun vs H Q => ∃ (a : Addr) (ns : List Int), vs = [V.ref a] ∧ (SqL K H a (ns.map V.int) ∨ SqT K H a (ns.map V.int)) ∧ Q (.int ns.sum) H
theorem sumT_raw {prog : Program} {w : World} {A : Around} {E : Value → Shared → Prop} {s : Shared} {l : Addr} {its : List Value} {ns : List Int} {Q : Value → Shared → Prop} (hh : A.handled = none) (hl : s.heap.IsTuple l its.toArray) (hi : IntsAre its ns)
    (h : ∀ h' tk t', (∀ b o, s.heap.get? b = some o → h'.get? b = some o) → Q (.int ns.sum t') { s with heap := h', toks := tk }) : wpAny (model prog w) A (call (.builtin "sum") [.ref l]) Q E s := by
  obtain ⟨xs, e⟩ := hi.allInts.items
  have hn : numsOf (intItems xs).toList = ns := by rw [← e]; exact hi.numsOf
  rw [nums_intItems] at hn
  rw [e] at hl
  refine PySem.W.ktm_sumG hh hl fun h' tk t' hk => ?_
  have := h h' tk t' hk
  rw [preSum_eq, List.take_of_length_le (by simp), hn]; exact this
theorem cr_sumA {X : Cx} (hc : X.calm = true) : CallR X (.builtin "sum") (rSumA X.K) := by
  intro pins s σ H vs us Q I r h
  obtain ⟨a, ns, rfl, hs | hs, q⟩ := h
  · exact cr_sum hc pins s σ H _ us Q I r ⟨a, ns, rfl, hs, q⟩
  · obtain ⟨its, rv, ht, hz⟩ := I.src (S := (false, a)) hs
    have ht : s.heap.IsTuple a its.toArray := ht
    rw [Vals.ref1 r]
    exact sumT_raw (I.ok.hd hc) ht rv.ints fun h' tk t' hk => ⟨.int _, H, I.kept hk, ⟨_, rfl⟩, q⟩
theorem c_sum : CallS K rc (rSumA K) dSum := fun Hs H x a d e hx ho Q q => by
  cases a with
  | list ds =>
    simp only [dSum] at ho
    cases e1 : toInts ds with
    | none => rw [e1] at ho; cases ho
    | some ns =>
      rw [e1] at ho
      cases ho
      obtain ⟨p, vs, rfl, h1, h2⟩ := hx.lst_inv e
      rw [toInts_eq e1] at h2
      rw [h2.ints] at h1
      exact ⟨p, ns, rfl, .inl (SqL.of h1), q _ Hs H (.refl e) (fun _ w => w) (.int _)⟩
  | tuple ds =>
    simp only [dSum] at ho
    cases e1 : toInts ds with
    | none => rw [e1] at ho; cases ho
    | some ns =>
      rw [e1] at ho
      cases ho
      obtain ⟨p, vs, rfl, h1, h2⟩ := hx.tup_inv
      rw [toInts_eq e1] at h2
      rw [h2.ints] at h1
      exact ⟨p, ns, rfl, .inr (seqT_same e h1), q _ Hs H (.refl e) (fun _ w => w) (.int _)⟩
  | _ => cases ho
def dAll : D → Option D
  | .list ds => (match toBls ds with
    | some ns => some (.bool (ns.all id))
    | none => none)
  | _ => none
def dAny : D → Option D
  | .list ds => (match toBls ds with
    | some ns => some (.bool (ns.any id))
    | none => none)
  | _ => none
theorem c_all : CallS K rc (rAll K) dAll := fun Hs H x a d e hx ho Q q => by
  cases a with
  | list ds =>
    simp only [dAll] at ho
    cases e1 : toBls ds with
    | none => rw [e1] at ho; cases ho
    | some ns =>
      rw [e1] at ho
      cases ho
      obtain ⟨p, vs, rfl, h1, h2⟩ := hx.lst_inv e
      rw [toBls_eq e1] at h2
      rw [h2.bls] at h1
      exact ⟨p, ns, rfl, SqL.of h1, q _ Hs H (.refl e) (fun _ w => w) (.bl _)⟩
  | _ => cases ho
theorem c_any : CallS K rc (rAny K) dAny := fun Hs H x a d e hx ho Q q => by
  cases a with
  | list ds =>
    simp only [dAny] at ho
    cases e1 : toBls ds with
    | none => rw [e1] at ho; cases ho
    | some ns =>
      rw [e1] at ho
      cases ho
      obtain ⟨p, vs, rfl, h1, h2⟩ := hx.lst_inv e
      rw [toBls_eq e1] at h2
      rw [h2.bls] at h1
      exact ⟨p, ns, rfl, SqL.of h1, q _ Hs H (.refl e) (fun _ w => w) (.bl _)⟩
  | _ => cases ho
/-- tuple(x) -/
def dTupOf : D → Option D
  | .list ds => some (.tuple ds)
  | .tuple ds => some (.tuple ds)
  | _ => none
theorem c_tuple : CallS K rc (fun xs H Q => ∃ p ys, xs = [.ref p] ∧ ((SqL K H p ys ∧ ∀ l, H l = none → Q (.ref l) (upd H l (.tup ys))) ∨ (SqT K H p ys ∧ Q (.ref p) H))) dTupOf := fun Hs H x a d e hx ho Q q => by
  cases a with
  | list ds =>
    cases ho
    obtain ⟨p, vs, rfl, h1, h2⟩ := hx.lst_inv e
    refine ⟨p, vs, rfl, .inl ⟨SqL.of h1, fun l hl => ?_⟩⟩
    have hs := same_none e hl
    exact q _ _ _ (.new e hl) (fun w => row_new hl) (.tup (.inl (.inl upd_same)) (h2.new hs))
  | tuple ds =>
    cases ho
    obtain ⟨p, vs, rfl, h1, h2⟩ := hx.tup_inv
    exact ⟨p, vs, rfl, .inr ⟨seqT_same e h1, q _ Hs H (.refl e) (fun _ w => w) (.tup h1 h2)⟩⟩
  | _ => cases ho
end
/-- list(x): a new list -/
theorem df_listOf (ha : DB X rc m a te f) (hm : X.mg "list" = none) (hg : Gl X "list" := by rfl) (he : starEach (a :: []) X.env = (false, eval a X.env) :: starEach [] X.env := by rfl) (hpl : (backTo pos (starEach [] X.env)).any (·.1) = false := by rfl) :
    DF X rc (.Call (.Name "list" p) [a] [] pos) (tCB (fun xs H Q => ∃ p ys, xs = [.ref p] ∧ (SqL X.K H p ys ∨ SqT X.K H p ys) ∧ ∀ l, H l = none → Q (.ref l) (upd H l (.lst ys))) (tCons te tNil)) (mBind f fun d => mO (dItems d)) :=
  df_of (L2.pe_callTy call_list_of hg hm PyProof.Rows.boot_list (pa_cons ha.pe pa_nil he) (by decide) (by decide) he hpl) fun Hs0 H0 σ Hs H ρ R d w hf Q q => by
    obtain ⟨a, r1, h1, h2⟩ := mBind_some hf
    obtain ⟨h3, rfl⟩ := mO_some h2
    refine ha.se Hs0 H0 σ Hs H ρ R a _ h1 _ fun v Hs1 H1 ex1 w1 p1 => ?_
    have fin : ∀ vs, RpAll X.K Hs1 vs d → ∀ l, H1 l = none → Q (.ref l) (upd H1 l (.lst vs)) := fun vs hr l hl => by
      have hn : H l = none := by
        cases z : H l with
        | none => rfl
        | some u => exact absurd hl (ex1.d l (by rw [z]; simp))
      exact q _ Hs1 _ (ex1.trans (.newP ex1.s hl)) (row_new hl w1) ⟨l, vs, rfl, hn, upd_same, same_none ex1.s hl, hr⟩
    cases a with
    | list ds =>
      cases h3
      obtain ⟨p, vs, rfl, h4, h5⟩ := p1.b.lst_inv ex1.s
      exact ⟨p, vs, rfl, .inl (SqL.of h4), fin vs h5⟩
    | tuple ds =>
      cases h3
      obtain ⟨p, vs, rfl, h4, h5⟩ := p1.b.tup_inv
      exact ⟨p, vs, rfl, .inr (seqT_same ex1.s h4), fin vs h5⟩
    | _ => cases h3
/-- isinstance -/
def tyN : D → String
  | .none => "NoneType"
  | .bool _ => "bool"
  | .int _ => "int"
  | .str _ => "str"
  | .list _ => "list"
  | .tuple _ => "tuple"
  | .dict _ => "dict"
theorem Rp.ty {K : PySem.W.Frag} {H : Hp} {v : V} {d : D} (h : Rp K H v d) : TyX K H v (.type (tyN d)) := by
  cases h with
  | non => exact .base .non
  | bl b => exact .base (.bl b)
  | int i => exact .base (.int i)
  | str x => exact .base (.str x)
  | lst h r => exact .base (.lst h)
  | tup h r =>
    rcases h with (h | ⟨o, h⟩) | ⟨o, its, n, h, hc, _⟩
    · exact .base (.tup h)
    · exact .fTuple h
    · exact .kTuple h hc
def dIsi (T : String) (d : D) : Option D := match kitB (tyN d) T with
  | some b => some (.bool b)
  | none => none
theorem de_isi {T : String} {y : Str} {pt : Pos} (ha : DB X rc m a te f) (hm : X.mg "isinstance" = none) (hmT : X.mg y = none) (hvT : bootBuiltins y = some (.type T)) (hg : Gl X "isinstance" := by rfl) (hgT : Gl X y := by rfl) (hnT : y ≠ "__name__" := by decide) (hdT : (y == ("__debug__" : Str)) = false := by decide)
    (he : starEach [a, .Name y pt] X.env = (false, eval a X.env) :: starEach [.Name y pt] X.env := by rfl) (he2 : starEach [.Name y pt] X.env = (false, eval (.Name y pt) X.env) :: starEach [] X.env := by rfl) (hpl : (backTo pos (starEach [.Name y pt] X.env)).any (·.1) = false := by rfl) :
    DE X rc (.Call (.Name "isinstance" p) [a, .Name y pt] [] pos) (tCB (rIsi X.K) (tCons te (tCons (tC (.ty T)) tNil))) (mUn (dIsi T) f) :=
  ⟨L2.pe_callB call_isi hg hm PyProof.Rows.boot_isinstance (pa_cons ha.pe (pa_cons (pe_bltn (v := .ty T) hgT hmT hvT rfl hnT hdT) pa_nil he2) he) (by decide) (by decide) he hpl, fun Hs0 H0 σ Hs H ρ R d w hf Q q => by
    obtain ⟨a, r1, h1, h2⟩ := mBind_some hf
    obtain ⟨h3, rfl⟩ := mO_some h2
    refine ha.se Hs0 H0 σ Hs H ρ R a _ h1 _ fun v Hs1 H1 ex1 w1 p1 => ?_
    unfold dIsi at h3
    cases e : kitB (tyN a) T with
    | none => rw [e] at h3; cases h3
    | some b =>
      rw [e] at h3
      cases h3
      exact ⟨v, .ty T, _, _, b, rfl, .ty T, (p1.b.rp ex1.s).ty, kit_ty e, q _ Hs1 H1 ex1 w1 (.bl b)⟩⟩
/-! ### calls of one's own defs -/
/-- a def that keeps to data: its total meaning -/
def spP (K : PySem.W.Frag) (F : List D → Option D) : Sp := fun vs H Q _ => ∃ Hs ds d, Same Hs H ∧ RpAll K Hs vs ds ∧ F ds = some d ∧ ∀ v Hs' H', Ext none Hs H Hs' H' → Rp K Hs' v d → Q v H'
def ArgOk (K : PySem.W.Frag) (rc : Rc) (Hs H : Hp) (v : V) : Sl → Prop
  | .s d => Rp K Hs v d
  | .b d => (∀ p, v = .ref p → rc.ad ≠ some p) ∧ Bp K Hs H v d
  | .row => ∃ a, rc.ad = some a ∧ v = .ref a
  | _ => False
inductive ArgsOk (K : PySem.W.Frag) (rc : Rc) (Hs H : Hp) : List V → List Sl → Prop
  | nil : ArgsOk K rc Hs H [] []
  | cons {v : V} {vs : List V} {s : Sl} {ss : List Sl} : ArgOk K rc Hs H v s → ArgsOk K rc Hs H vs ss → ArgsOk K rc Hs H (v :: vs) (s :: ss)
/-- a def that may turn the row -/
def spG (K : PySem.W.Frag) (F : List Sl → Row → Option (D × Row)) : Sp := fun vs H Q _ => ∃ rc Hs as w d w', Same Hs H ∧ RowAt K rc H w ∧ (∀ a, Rc.ad rc = some a → H a ≠ none ∧ Hs a = none) ∧ ArgsOk K rc Hs H vs as ∧ F as w = some (d, w') ∧ ∀ v Hs' H', Ext rc Hs H Hs' H' → RowAt K rc H' w' → Rp K Hs' v d → Q v H'
structure Has (P : Program) (w : World) (K : PySem.W.Frag) (mg : Str → Option Value) (base : Heap) (x : Str) (k : Nat) (dvs : List V) (sp : Sp) : Prop where
  ex : ∃ f fd ps ds, FnOk P w K mg base CX0 k f fd ps sp ∧ mg x = some (.ref f) ∧ PySem.W.keepIn K (.ref f) = true ∧ Binds K fd ps ds ∧ Vals dvs ds
theorem de_callP {k : Nat} {F : List D → Option D} {dvs : List V} {dds : List D} (h : Has X.prog X.w X.K X.mg X.base x k dvs (spP X.K F)) (hr : Room k X.A) (hd : ∀ H, RpAll X.K H dvs dds) (ha : DA X rc (e :: es) t fl) (hg : Gl X x := by rfl) (hdb : (x == ("__debug__" : Str)) = false := by decide)
    (he : starEach (e :: es) X.env = (false, eval e X.env) :: starEach es X.env := by rfl) (hpl : (backTo pos (starEach es X.env)).any (·.1) = false := by rfl) :
    DE X rc (.Call (.Name x p) (e :: es) [] pos) (tCall (spP X.K F) dvs E0 t) (mBind fl fun ds => mO (F (ds ++ dds))) := by
  obtain ⟨f, fd, ps, ds, hF, hm, hk, hb, hv⟩ := h.ex
  refine ⟨pe_call hF hr hg hm hk hb hv pass0 ha.pe hdb he hpl, fun Hs0 H0 σ Hs H ρ R d w hf Q q => ?_⟩
  obtain ⟨l, r1, h1, h2⟩ := mBind_some hf
  obtain ⟨h3, rfl⟩ := mO_some h2
  refine ha.se Hs0 H0 σ Hs H ρ R l _ h1 _ fun vs Hs1 H1 ex1 w1 p1 => ?_
  exact ⟨Hs1, l ++ dds, d, ex1.s, p1.append (hd Hs1), h3, fun v Hs' H' ex2 p2 => q v Hs' H' (ex1.trans ex2.of_none) (w1.keep ex2.same_none) p2⟩
structure DR (X : Cx) (rc : Rc) (es : List Expr) (t : TA) (f : MM (List Sl)) : Prop where
  pe : PA X es t
  se : Sem X.K rc (fun _ Hs H v d => ArgsOk X.K rc Hs H v d) t f
theorem ArgOk.ext {K : PySem.W.Frag} {Hs H Hs' H' : Hp} {v : V} {s : Sl} (h : ArgOk K rc Hs H v s) (ex : Ext rc Hs H Hs' H') : ArgOk K rc Hs' H' v s := by
  cases s with
  | s d => exact Rp.mono ex.g (show Rp K Hs v d from h)
  | b d => exact ⟨h.1, (h.2.monoS ex.g).now h.1 ex.k⟩
  | row => exact h
  | _ => exact h.elim
theorem dr_nil : DR X rc [] tNil (mRet []) := ⟨pa_nil, fun Hs0 H0 σ Hs H ρ R d r hf Q q => by
  cases hf
  exact q [] Hs H (.refl R.same) R.row .nil⟩
def mConsS (s : MM D) (fl : MM (List Sl)) : MM (List Sl) := mBind s fun a => mBind fl fun l => mRet (.s a :: l)
theorem dr_cons {fl : MM (List Sl)} (ha : DE X rc e te f) (hl : DR X rc es t fl) (hs : starEach (e :: es) X.env = (false, eval e X.env) :: starEach es X.env := by rfl) : DR X rc (e :: es) (tCons te t) (mConsS f fl) := ⟨pa_cons ha.pe hl.pe hs, fun Hs0 H0 σ Hs H ρ R d w hf Q q => by
  obtain ⟨a, r1, h1, h2⟩ := mBind_some hf
  obtain ⟨l, r2, h3, h4⟩ := mBind_some h2
  cases h4
  refine ha.se Hs0 H0 σ Hs H ρ R a r1 h1 _ fun v Hs1 H1 ex1 w1 p1 => ?_
  refine hl.se Hs0 H0 σ Hs1 H1 _ (R.ext' ex1 w1) l _ h3 _ fun vs Hs2 H2 ex2 w2 p2 => ?_
  exact q _ Hs2 H2 (ex1.trans ex2) w2 (.cons (Rp.mono ex2.g p1) p2)⟩
def mConsRow (i : Nat) (fl : MM (List Sl)) : MM (List Sl) := fun ρ => match ρ.get i with
  | .row => mBind fl (fun l => mRet (.row :: l)) ρ
  | _ => none
theorem dr_row {fl : MM (List Sl)} (hl : DR X rc es t fl) (hN : X.N[i]? = some x := by rfl) (hv : Vis X.env.scope x := by first | exact Or.inl rfl | exact Or.inr (Or.inl rfl) | exact Or.inr (Or.inr rfl)) (hd : (x == ("__debug__" : Str)) = false := by decide)
    (hcd : (x == ("__classdict__" : Str)) = false := by decide) (hs : starEach (.Name x p :: es) X.env = (false, eval (.Name x p) X.env) :: starEach es X.env := by rfl) : DR X rc (.Name x p :: es) (tCons (tVar i) t) (mConsRow i fl) := ⟨pa_cons (pe_var hN hv hd hcd) hl.pe hs, fun Hs0 H0 σ Hs H ρ R d w hf Q q => by
  unfold mConsRow at hf
  have hsl := R.sl i
  cases hx : ρ.get i with
  | row =>
    rw [hx] at hf hsl
    obtain ⟨l, r2, h3, h4⟩ := mBind_some hf
    cases h4
    obtain ⟨a, h1, h2⟩ := hsl
    refine ⟨_, h2, hl.se Hs0 H0 σ Hs H ρ R l _ h3 _ fun vs Hs2 H2 ex2 w2 p2 => ?_⟩
    exact q _ Hs2 H2 ex2 w2 (.cons ⟨a, h1, rfl⟩ p2)
  | _ => rw [hx] at hf; cases hf⟩
def mConsBor (i : Nat) (fl : MM (List Sl)) : MM (List Sl) := fun ρ => match ρ.get i with
  | .o ds => mBind fl (fun l => mRet (.b (.list ds) :: l)) ρ
  | .b d => mBind fl (fun l => mRet (.b d :: l)) ρ
  | _ => none
theorem dr_bor {fl : MM (List Sl)} (hl : DR X rc es t fl) (hN : X.N[i]? = some x := by rfl) (hv : Vis X.env.scope x := by first | exact Or.inl rfl | exact Or.inr (Or.inl rfl) | exact Or.inr (Or.inr rfl)) (hd : (x == ("__debug__" : Str)) = false := by decide)
    (hcd : (x == ("__classdict__" : Str)) = false := by decide) (hs : starEach (.Name x p :: es) X.env = (false, eval (.Name x p) X.env) :: starEach es X.env := by rfl) : DR X rc (.Name x p :: es) (tCons (tVar i) t) (mConsBor i fl) := ⟨pa_cons (pe_var hN hv hd hcd) hl.pe hs, fun Hs0 H0 σ Hs H ρ R d w hf Q q => by
  unfold mConsBor at hf
  have hsl := R.sl i
  cases hx : ρ.get i with
  | o ds =>
    rw [hx] at hf hsl
    obtain ⟨l, r2, h3, h4⟩ := mBind_some hf
    cases h4
    obtain ⟨pp, vs, h1, h2, h5, h6, h7, h8⟩ := hsl
    refine ⟨_, h1, hl.se Hs0 H0 σ Hs H ρ R l _ h3 _ fun ws Hs2 H2 ex2 w2 p2 => ?_⟩
    exact q _ Hs2 H2 ex2 w2 (.cons ⟨fun z hz => by cases hz; exact h7, .lst (ex2.k _ _ h7 h2) (h8.mono ex2.g)⟩ p2)
  | b db =>
    rw [hx] at hf hsl
    obtain ⟨l, r2, h3, h4⟩ := mBind_some hf
    cases h4
    obtain ⟨v, h1, h2, h5⟩ := hsl
    refine ⟨_, h1, hl.se Hs0 H0 σ Hs H ρ R l _ h3 _ fun ws Hs2 H2 ex2 w2 p2 => ?_⟩
    have R2 := R.ext' ex2 w2
    exact q _ Hs2 H2 ex2 w2 (.cons ⟨h2, (h5.monoS ex2.g).now h2 R2.ext.k⟩ p2)
  | _ => rw [hx] at hf; cases hf⟩
def mCallG (F : List Sl → Row → Option (D × Row)) (fl : MM (List Sl)) : MM D := mBind fl fun l => fun ρ => F l ρ.row
theorem de_callG {k : Nat} {F : List Sl → Row → Option (D × Row)} {fl : MM (List Sl)} (h : Has X.prog X.w X.K X.mg X.base x k [] (spG X.K F)) (hr : Room k X.A) (ha : DR X rc (e :: es) t fl) (hg : Gl X x := by rfl) (hdb : (x == ("__debug__" : Str)) = false := by decide)
    (he : starEach (e :: es) X.env = (false, eval e X.env) :: starEach es X.env := by rfl) (hpl : (backTo pos (starEach es X.env)).any (·.1) = false := by rfl) :
    DE X rc (.Call (.Name x p) (e :: es) [] pos) (tCall (spG X.K F) [] E0 t) (mCallG F fl) := by
  obtain ⟨f, fd, ps, ds, hF, hm, hk, hb, hv⟩ := h.ex
  refine ⟨pe_call hF hr hg hm hk hb hv pass0 ha.pe hdb he hpl, fun Hs0 H0 σ Hs H ρ R d w hf Q q => ?_⟩
  obtain ⟨l, r1, h1, h2⟩ := mBind_some hf
  refine ha.se Hs0 H0 σ Hs H ρ R l _ h1 _ fun vs Hs1 H1 ex1 w1 p1 => ?_
  have R1 := R.ext' ex1 w1
  refine ⟨rc, Hs1, l, r1, d, w, ex1.s, w1, fun a ha' => ⟨R1.ext.d a (R1.rn a ha').1, R1.ext.p a (R1.rn a ha').1 (R1.rn a ha').2⟩, by rw [List.append_nil]; exact p1, h2, fun v Hs' H' ex2 w2 p2 => q v Hs' H' (ex1.trans ex2) w2 p2⟩
/-! ### defs -/
def runDef (g : MS) (n N : Nat) (as : List Sl) (w : Row) : Option (D × Row) := if as.length = n then (match g ⟨w, as ++ List.replicate (N - n) .no⟩ with
  | some (.ret d w') => some (d, w')
  | some (.nx ρ) => some (.none, ρ.row)
  | _ => none) else none
def runP (g : MS) (n N : Nat) (ds : List D) : Option D := (runDef g n N (ds.map .s) ([], 0, 0, 0)).map (·.1)
end
section
variable {P : Program} {w : World} {K : PySem.W.Frag} {mg : Str → Option Value} {base : Heap} {qual x : Str} {params : Arguments} {body : List Stmt} {scope : Scope} {dvs : List V} {kws : List (Str × V)} {f : Addr} {fd : FuncData} {N ps : List Str} {k : Nat} {g : MS}
theorem ArgsOk.length {rc : Rc} {Hs H : Hp} : ∀ {vs : List V} {as : List Sl}, ArgsOk K rc Hs H vs as → vs.length = as.length
  | _, _, .nil => rfl
  | _, _, .cons _ r => congrArg (· + 1) r.length
theorem ArgsOk.get {rc : Rc} {Hs H : Hp} : ∀ {vs : List V} {as : List Sl} {i : Nat} {s : Sl}, ArgsOk K rc Hs H vs as → as[i]? = some s → ∃ v, vs[i]? = some v ∧ ArgOk K rc Hs H v s
  | _, _, _, _, .nil, e => by simp at e
  | _, _, 0, _, .cons r _, e => by simp at e; subst e; exact ⟨_, rfl, r⟩
  | _, _, i + 1, s, .cons _ t, e => by
    obtain ⟨u, h1, h2⟩ := ArgsOk.get (i := i) (s := s) t (by simpa using e)
    exact ⟨u, by simpa using h1, h2⟩
theorem rel_start {rc : Rc} {Hs H : Hp} {vs : List V} {as : List Sl} {w : Row} {n : Nat} (s : Same Hs H) (hw : RowAt K rc H w) (hr : ∀ a, Rc.ad rc = some a → H a ≠ none ∧ Hs a = none) (ha : ArgsOk K rc Hs H vs as) (hn : as.length = n) :
    Rel K rc Hs H (start N vs) Hs H ⟨w, as ++ List.replicate (N.length - n) .no⟩ := by
  have hl := ha.length
  have get : ∀ i, (⟨w, as ++ List.replicate (N.length - n) .no⟩ : Ev).get i = (as[i]?).getD .no := fun i => by
    unfold Ev.get
    rw [List.getD_eq_getElem?_getD]
    by_cases hi : i < as.length
    · rw [List.getElem?_append_left hi]
    · rw [List.getElem?_append_right (by omega), List.getElem?_replicate, List.getElem?_eq_none (by omega)]
      split <;> rfl
  have sg : ∀ i v, vs[i]? = some v → (start N vs)[i]? = some (some v) := fun i v e => by
    unfold L2.start
    have hi := (List.getElem?_eq_some_iff.mp e).1
    rw [List.getElem?_append_left (by rw [List.length_map]; exact hi), List.getElem?_map, e]
    rfl
  refine ⟨.refl s, s, hw, hr, fun a sc ns e => ?_, by simp [L2.start, hl, hn], fun i => ?_, fun i j p hij hi hj => ?_⟩
  · subst e; exact hw.2
  · rw [get]
    cases e : as[i]? with
    | none => trivial
    | some x =>
      obtain ⟨v, h1, h2⟩ := ha.get e
      have h3 := sg i v h1
      cases x with
      | no => trivial
      | s d => exact ⟨v, h3, h2⟩
      | o ds => exact h2.elim
      | b d => exact ⟨v, h3, h2.1, h2.2⟩
      | row =>
        obtain ⟨a, h4, rfl⟩ := h2
        exact ⟨a, h4, h3⟩
      | ob a fs => exact h2.elim
  · rw [get] at hi
    cases e : as[i]? with
    | none => rw [e] at hi; exact hi.elim
    | some x =>
      rw [e] at hi
      cases x with
      | o ds =>
        obtain ⟨v, h1, h2⟩ := ha.get e
        exact h2.elim
      | _ => exact hi.elim
theorem def_okG (F : FunD K x qual params body scope dvs kws f fd) (S : FnScope N ps scope)
    (hb : ∀ (cdv : Value) (A : Around) (outer : List Env) (s : Shared) (H : Hp) (E : XK), Room k (A.deeper (envOfC qual scope s.heap.objs.size f cdv)) → ∀ rc, ∃ t, DSs (cxOf CX0 P w K mg base N qual scope f cdv A outer s H E).nox rc body t g) :
    FnOk P w K mg base CX0 (k + 1) f fd ps (spG K (runDef g ps.length N.length)) := by
  refine F.ok S (fun vs H Q E h => ?_) (fun cdv A outer s H vs Q E hr h => ?_)
  · obtain ⟨rc, Hs, as, w, d, w', h1, h2, h3, h4, h5, h6⟩ := h
    unfold runDef at h5
    by_cases hl : as.length = ps.length
    · rw [h4.length]; exact hl
    · rw [if_neg hl] at h5; cases h5
  · obtain ⟨rc, Hs, as, w0, d, w', h1, h2, h3, h4, h5, h6⟩ := h
    obtain ⟨t, ht⟩ := hb cdv A outer s H E hr rc
    refine ⟨t, PSs.nox ht.ps, ?_⟩
    unfold runDef at h5
    by_cases hl : as.length = ps.length
    · rw [if_pos hl] at h5
      have R : Rel K rc Hs H (start N vs) Hs H ⟨w0, as ++ List.replicate (N.length - ps.length) .no⟩ := rel_start h1 h2 h3 h4 hl
      cases e : g ⟨w0, as ++ List.replicate (N.length - ps.length) .no⟩ with
      | none => rw [e] at h5; cases h5
      | some o =>
        rw [e] at h5
        cases o with
        | ret d' w2 =>
          cases h5
          exact ht.se Hs H _ Hs H _ R _ e _ fun v Hs' H' ex w' p => h6 v Hs' H' ex w' p
        | nx ρ' =>
          cases h5
          exact ht.se Hs H _ Hs H _ R _ e _ fun σ' Hs' H' _ R' => h6 _ Hs' H' R'.ext R'.row .non
        | bk _ => cases h5
        | ct _ => cases h5
    · rw [if_neg hl] at h5; cases h5
theorem argsS {Hs H : Hp} {rc : Rc} : ∀ {vs : List V} {ds : List D}, RpAll K Hs vs ds → ArgsOk K rc Hs H vs (ds.map .s)
  | _, _, .nil => .nil
  | _, _, .cons h r => .cons h (argsS r)
theorem okP_of {n M : Nat} (h : FnOk P w K mg base CX0 k f fd ps (spG K (runDef g n M))) : FnOk P w K mg base CX0 k f fd ps (spP K (runP g n M)) := h.imp fun vs H Q E h => by
  obtain ⟨Hs, ds, d, h1, h2, h3, h4⟩ := h
  unfold runP at h3
  cases e : runDef g n M (ds.map .s) ([], 0, 0, 0) with
  | none => rw [e] at h3; cases h3
  | some pr =>
    obtain ⟨d', w'⟩ := pr
    rw [e] at h3
    cases h3
    exact ⟨none, Hs, ds.map .s, ([], 0, 0, 0), _, w', h1, trivial, fun a z => by (cases z), argsS h2, e, fun v Hs' H' ex _ p => h4 v Hs' H' ex p⟩
end
end DL

namespace DL
open PySem PySem.Spec PyProof.Rows L2
theorem pylong_of {X : Cx} {k : Nat} {env : Env} {l : List Env} (hS : X.base.NoSeer) (ht : X.prog.given.tree = none) (hst : X.stack = env :: l) (hg : env.scope.isGenerator = false) (hco : env.scope.isCoroutine = false) (hb : env.builtins = builtinsNs) (hgl : env.globals = mainGlobals)
    (hr : Room k X.A) (hk : 32 ≤ k) : PylongAt X := fun pins σ H s I =>
  PylongRoom.of (M := model X.prog X.w) I.nolimit (by have := hr.dp; have e : Builtin.pylongFrames = 100 := rfl; rw [e]; omega)
    (SeerAt.of (M := model X.prog X.w) (hS.keeps I.bk) ht (by rw [I.ok.frames, hst]) hg hco hb hgl)
section
variable {X : Cx} {rc : Rc} {m m' : Bool} {a b : Expr} {pos : Pos} {te te2 : TE} {f f2 : MM D} {i : Nat} {x : Str} {K : PySem.W.Frag}
def gRetN : MS := fun ρ => some (.ret .none ρ.row)
theorem ds_retN : DS X rc (.Return none pos) tRetN gRetN := ⟨ps_retN, fun Hs0 H0 σ Hs H ρ R oc hf E P => by
  cases hf
  exact P _ Hs H R.ext R.row .non⟩
def dIsB : D → D → Option D
  | .bool a, .bool b => some (.bool (decide (a = b)))
  | _, _ => none
def dNotB : D → D → Option D
  | .bool a, .bool b => some (.bool (!decide (a = b)))
  | _, _ => none
theorem s_isBl : OpS K rc rIsB dIsB := fun Hs H x y a b d e hx hy ho Q q => by
  cases a <;> cases b <;> cases ho
  exact ⟨_, _, hx.bl_inv, hy.bl_inv, q _ Hs H (.refl e) (fun _ w => w) (.bl _)⟩
theorem s_notBl : OpS K rc rNotB dNotB := fun Hs H x y a b d e hx hy ho Q q => by
  cases a <;> cases b <;> cases ho
  exact ⟨_, _, hx.bl_inv, hy.bl_inv, q _ Hs H (.refl e) (fun _ w => w) (.bl _)⟩
/-- isinstance(x, (tuple, list)) -/
def dIsiTL : D → Option D
  | .list _ => some (.bool true)
  | .tuple _ => some (.bool true)
  | .none => some (.bool false)
  | .bool _ => some (.bool false)
  | .int _ => some (.bool false)
  | .str _ => some (.bool false)
  | .dict _ => none
theorem kit_tl {d : D} {b : Bool} (h : dIsiTL d = some (.bool b)) : PySem.W.kitAny K (.type (tyN d)) [.type "tuple", .type "list"] = some b := by
  cases d with
  | dict _ => cases h
  | list _ =>
    cases h
    exact kitAny_cons (kit_ty (a := "list") (b := "tuple") (r := false) (by decide +kernel)) (fun _ => kitAny_cons (kit_ty (a := "list") (b := "list") (r := true) (by decide +kernel)) (fun z => by cases z) fun _ => rfl) (fun z => by cases z)
  | tuple _ =>
    cases h
    exact kitAny_cons (kit_ty (a := "tuple") (b := "tuple") (r := true) (by decide +kernel)) (fun z => by cases z) fun _ => rfl
  | none =>
    cases h
    exact kitAny_cons (kit_ty (a := "NoneType") (b := "tuple") (r := false) (by decide +kernel)) (fun _ => kitAny_cons (kit_ty (a := "NoneType") (b := "list") (r := false) (by decide +kernel)) (fun _ => kitAny_nil) fun z => by cases z) (fun z => by cases z)
  | bool _ =>
    cases h
    exact kitAny_cons (kit_ty (a := "bool") (b := "tuple") (r := false) (by decide +kernel)) (fun _ => kitAny_cons (kit_ty (a := "bool") (b := "list") (r := false) (by decide +kernel)) (fun _ => kitAny_nil) fun z => by cases z) (fun z => by cases z)
  | int _ =>
    cases h
    exact kitAny_cons (kit_ty (a := "int") (b := "tuple") (r := false) (by decide +kernel)) (fun _ => kitAny_cons (kit_ty (a := "int") (b := "list") (r := false) (by decide +kernel)) (fun _ => kitAny_nil) fun z => by cases z) (fun z => by cases z)
  | str _ =>
    cases h
    exact kitAny_cons (kit_ty (a := "str") (b := "tuple") (r := false) (by decide +kernel)) (fun _ => kitAny_cons (kit_ty (a := "str") (b := "list") (r := false) (by decide +kernel)) (fun _ => kitAny_nil) fun z => by cases z) (fun z => by cases z)
theorem dIsiTL_bool {d r : D} (h : dIsiTL d = some r) : ∃ b, r = .bool b := by
  cases d <;> cases h <;> exact ⟨_, rfl⟩
theorem de_isiTL {p pt p1 p2 : Pos} {kt : Nat} (ha : DB X rc m a te f) (hm : X.mg "isinstance" = none) (hm1 : X.mg "tuple" = none) (hm2 : X.mg "list" = none) (hg : Gl X "isinstance" := by rfl) (hg1 : Gl X "tuple" := by rfl) (hg2 : Gl X "list" := by rfl)
    (he : starEach [a, .Tuple [.Name "tuple" p1, .Name "list" p2] kt pt] X.env = (false, eval a X.env) :: starEach [.Tuple [.Name "tuple" p1, .Name "list" p2] kt pt] X.env := by rfl)
    (he2 : starEach [.Tuple [.Name "tuple" p1, .Name "list" p2] kt pt] X.env = (false, eval (.Tuple [.Name "tuple" p1, .Name "list" p2] kt pt) X.env) :: starEach [] X.env := by rfl)
    (he3 : starEach [.Name "tuple" p1, .Name "list" p2] X.env = (false, eval (.Name "tuple" p1) X.env) :: starEach [.Name "list" p2] X.env := by rfl)
    (he4 : starEach [.Name "list" p2] X.env = (false, eval (.Name "list" p2) X.env) :: starEach [] X.env := by rfl)
    (hpl : (backTo pos (starEach [.Tuple [.Name "tuple" p1, .Name "list" p2] kt pt] X.env)).any (·.1) = false := by rfl) :
    DE X rc (.Call (.Name "isinstance" p) [a, .Tuple [.Name "tuple" p1, .Name "list" p2] kt pt] [] pos) (tCB (rIsiT X.K) (tCons te (tCons (tTup (tCons (tC (.ty "tuple")) (tCons (tC (.ty "list")) tNil))) tNil))) (mUn dIsiTL f) :=
  ⟨L2.pe_callB call_isiT hg hm PyProof.Rows.boot_isinstance (pa_cons ha.pe (pa_cons (pe_tup (pa_cons (pe_bltn (v := .ty "tuple") hg1 hm1 PyProof.Rows.boot_tuple rfl) (pa_cons (pe_bltn (v := .ty "list") hg2 hm2 PyProof.Rows.boot_list rfl) pa_nil he4) he3)) pa_nil he2) he) (by decide) (by decide) he hpl, fun Hs0 H0 σ Hs H ρ R d w hf Q q => by
    obtain ⟨a, r1, h1, h2⟩ := mBind_some hf
    obtain ⟨h3, rfl⟩ := mO_some h2
    refine ha.se Hs0 H0 σ Hs H ρ R a _ h1 _ fun v Hs1 H1 ex1 w1 p1 => ?_
    refine ⟨by show 2 ≤ sizeLine; decide, fun l hl => ?_⟩
    obtain ⟨b, rfl⟩ := dIsiTL_bool h3
    have ex2 : Ext rc Hs1 H1 Hs1 (upd H1 l (.tup [.ty "tuple", .ty "list"])) := .newP ex1.s hl
    refine ⟨v, l, _, .type (tyN a), [.type "tuple", .type "list"], b, rfl, upd_same, .cons (.ty _) (.cons (.ty _) .nil), ?_, kit_tl h3, q _ Hs1 _ (ex1.trans ex2) (row_new hl w1) (.bl b)⟩
    exact ((p1.ext ex2).b.rp ex2.s).ty⟩
/-- insert -/
def gInsert (i : Nat) (fa fb : MM D) : MS := fun ρ => match fa ρ with
  | some (.int k, r1) => (match fb (ρ.wr r1) with
    | some (d, r) => (match (ρ.wr r).get i with
      | .o ds => if 0 ≤ k ∧ k ≤ 1000000 ∧ ds.length < 1000000 then some (.nx ((ρ.wr r).set i (.o (ds.take k.toNat ++ [d] ++ ds.drop k.toNat)))) else none
      | _ => none)
    | none => none)
  | _ => none
abbrev rInsert : V → List V → Hp → VK → Prop := fun x vs H Q => ∃ (l : Addr) (xs : List V) (i : Int) (y : V), x = .ref l ∧ vs = [.int i, y] ∧ H l = some (.lst xs) ∧ xs.length < sizeLine ∧ 0 ≤ i ∧ i < 2 ^ 63 ∧
    Q .non (upd H l (.lst (xs.take i.toNat ++ [y] ++ xs.drop i.toNat)))
theorem ds_insert {apos cpos pos p : Pos} (ha : DE X rc a te f) (hb : DE X rc b te2 f2) (hN : X.N[i]? = some x := by rfl) (hv : Vis X.env.scope x := by first | exact Or.inl rfl | exact Or.inr (Or.inl rfl) | exact Or.inr (Or.inr rfl))
    (hp : PE X (.Call (.Attribute (.Name x p) "insert" apos) [a, b] [] cpos) (tBM X.K "list" rInsert (tVar i) (tCons te (tCons te2 tNil))))
    (hs : swapsWith (.Call (.Attribute (.Name x p) "insert" apos) [a, b] [] cpos) none pos.line X.env = pure false := by rfl) :
    DS X rc (.Expr (.Call (.Attribute (.Name x p) "insert" apos) [a, b] [] cpos) pos) (tDrop (tBM X.K "list" rInsert (tVar i) (tCons te (tCons te2 tNil)))) (gInsert i f f2) := ⟨ps_expr hp hs, fun Hs0 H0 σ Hs H ρ R oc hf E P => by
  unfold gInsert at hf
  cases e1 : f ρ with
  | none => rw [e1] at hf; cases hf
  | some pr =>
    obtain ⟨kd, r1⟩ := pr
    rw [e1] at hf
    cases kd with
    | int k =>
      simp only at hf
      cases e0 : f2 (ρ.wr r1) with
      | none => rw [e0] at hf; cases hf
      | some pr =>
        obtain ⟨d, r⟩ := pr
        rw [e0] at hf
        simp only at hf
        cases e2 : (ρ.wr r).get i with
        | o ds =>
          rw [e2] at hf
          simp only at hf
          by_cases hl : 0 ≤ k ∧ k ≤ 1000000 ∧ ds.length < 1000000
          · rw [if_pos hl] at hf
            cases hf
            have hs := R.sl i
            have e2' : ρ.get i = .o ds := e2
            rw [e2'] at hs
            obtain ⟨pp, vs, h1, h2, h3, h4, h5, h6⟩ := hs
            refine ⟨_, h1, .inl ⟨rfl, _, SqL.of h2⟩, ?_⟩
            refine ha.se Hs0 H0 σ Hs H ρ R _ r1 e1 _ fun y Hs1 H1 ex w1 p1 => ?_
            have R1 := R.ext' ex w1
            refine hb.se Hs0 H0 σ Hs1 H1 _ R1 _ r e0 _ fun y2 Hs2 H2 ex2 w2 p2 => ?_
            have R2 : Rel X.K rc Hs0 H0 σ Hs2 H2 (ρ.wr r) := R1.ext' ex2 w2
            refine ⟨pp, vs, k, y2, rfl, by rw [p1.int_inv], ex2.k _ _ h5 (ex.k _ _ h5 h2), by rw [h6.length]; exact big_lt hl.2.2, hl.1, by omega, ?_⟩
            have g12 := ex.g.trans ex2.g
            exact P σ Hs2 _ g12 (R2.upd e2 h1 ((((h6.mono g12).take _).append (.cons p2 .nil)).append ((h6.mono g12).drop _)))
          · rw [if_neg hl] at hf; cases hf
        | _ => rw [e2] at hf; cases hf
    | _ => cases hf⟩
theorem pe_insert {apos cpos p : Pos} (hx : PE X (.Name x p) (tVar i)) (ha : DE X rc a te f) (hb2 : DE X rc b te2 f2) (hb : attributeBase (.Name x p) "insert" X.env (eval (.Name x p) X.env) = eval (.Name x p) X.env := by rfl)
    (h2 : (((backTo cpos (starEach [a, b] X.env)).all (!·.1) && (backToKw cpos (keywordEach [] X.env)).all (·.1.isSome)) && decide (([a, b].length + ([] : List Keyword).length + if ([] : List Keyword).isEmpty = true then 0 else 1) < 30)) = true := by rfl)
    (h3 : (apos.endLine == cpos.line) = true := by rfl) (h4 : starEach [a, b] X.env = (false, eval a X.env) :: starEach [b] X.env := by rfl) (h6 : starEach [b] X.env = (false, eval b X.env) :: starEach [] X.env := by rfl) (h5 : (backTo cpos (starEach [b] X.env)).any (·.1) = false := by rfl) :
    PE X (.Call (.Attribute (.Name x p) "insert" apos) [a, b] [] cpos) (tBM X.K "list" rInsert (tVar i) (tCons te (tCons te2 tNil))) :=
  pe_bm PySem.F.plainAttrs_list PySem.F.slot_list_insert PySem.F.type_list_insert mt_insert hx (pa_cons ha.pe (pa_cons hb2.pe pa_nil h6) h4) hb h2 h3 h4 h5
end
end DL

namespace DL
open PySem PySem.Spec PyProof.Rows L2
/-! ### the draw: a row [script, place, seed, rest] -/
def takenR (w : DL.Row) (m : Int) : Int × DL.Row :=
  if w.2.2.2 > 0 then (w.2.2.2.fmod m, (w.1, w.2.1, w.2.2.1, w.2.2.2.fdiv m))
  else if w.2.1 + 1 > (w.1.length : Int) then ((((w.2.2.1 * 48271 + 11).fmod 2147483647).fdiv 7).fmod m, (w.1, w.2.1 + 1, (w.2.2.1 * 48271 + 11).fmod 2147483647, w.2.2.2))
  else if w.1.getD w.2.1.toNat 0 ≥ 10 ^ 18 then ((w.1.getD w.2.1.toNat 0).fmod m, (w.1, w.2.1 + 1, (w.2.2.1 * 48271 + w.1.getD w.2.1.toNat 0 + 11).fmod 2147483647, (w.1.getD w.2.1.toNat 0).fdiv m))
  else ((w.1.getD w.2.1.toNat 0).fmod m, (w.1, w.2.1 + 1, (w.2.2.1 * 48271 + w.1.getD w.2.1.toNat 0 + 11).fmod 2147483647, w.2.2.2))
theorem takenR_range (w : DL.Row) {m : Int} (h : 0 < m) : 0 ≤ (takenR w m).1 ∧ (takenR w m).1 < m := by
  unfold takenR
  split
  · exact ⟨Int.fmod_nonneg_of_pos _ h, Int.fmod_lt_of_pos _ h⟩
  · split
    · exact ⟨Int.fmod_nonneg_of_pos _ h, Int.fmod_lt_of_pos _ h⟩
    · split
      · exact ⟨Int.fmod_nonneg_of_pos _ h, Int.fmod_lt_of_pos _ h⟩
      · exact ⟨Int.fmod_nonneg_of_pos _ h, Int.fmod_lt_of_pos _ h⟩
/-- a row that can be drawn from -/
def RowOk (w : DL.Row) : Prop := 0 ≤ w.2.1 ∧ w.1.length ≤ 63 ∧ 0 ≤ w.2.2.1 ∧ w.2.2.1 < 2147483647
theorem takenR_ok {w : DL.Row} {m : Int} (h : RowOk w) : RowOk (takenR w m).2 := by
  obtain ⟨h1, h2, h3, h4⟩ := h
  have z : ∀ x : Int, 0 ≤ x.fmod 2147483647 ∧ x.fmod 2147483647 < 2147483647 := fun x => ⟨Int.fmod_nonneg_of_pos _ (by decide), Int.fmod_lt_of_pos _ (by decide)⟩
  unfold takenR RowOk
  split
  · exact ⟨h1, h2, h3, h4⟩
  · split
    · exact ⟨by show 0 ≤ w.2.1 + 1; omega, h2, z _⟩
    · split
      · exact ⟨by show 0 ≤ w.2.1 + 1; omega, h2, z _⟩
      · exact ⟨by show 0 ≤ w.2.1 + 1; omega, h2, z _⟩
theorem rowOk0 {ns : List Int} {sd : Int} (h : ns.length ≤ 63) (h0 : 0 ≤ sd) (h1 : sd < 2147483647) : RowOk (ns, 0, sd, 0) := ⟨Int.le_refl 0, h, h0, h1⟩
end DL

namespace DL
open PySem PySem.Spec PyProof.Rows L2
/-! ### the same with the written part by its own name (for blocks within blocks) -/
section
variable {X : Cx} {rc : Rc} {m m' m2 : Bool} {e e2 e3 tg a b c : Expr} {pos p tpos : Pos} {ta tb te te2 te3 : TE} {fa fb f f2 f3 : MM D} {es : List Expr} {t : TA} {fl : MM (List D)} {x : Str} {vs : List Nat}
theorem kda_star (K : PySem.W.Frag) {p : Pos} (ha : DB X rc m e te fa) (hl : DA X rc es t fl) (hs : starEach (.Starred e p :: es) X.env = (true, eval e X.env) :: starEach es X.env := by rfl) (hK : X.K = K := by rfl) : DA X rc (.Starred e p :: es) (StX.tStar K te t) (mStar fa fl) := by
  subst hK; exact da_star ha hl hs
theorem kde_ix (K : PySem.W.Frag) (ha : DB X rc m a ta fa) (hb : DB X rc m' b tb fb) (hs : PlainIx b := by exact fun _ _ => rfl) (hK : X.K = K := by rfl) : DE X rc (.Subscript a b pos) (tOp (rIx K) ta tb) (mOp dIx fa fb) := by
  subst hK; exact de_ix ha hb hs
theorem kde_slice (K : PySem.W.Frag) {lo hi : Option Expr} {tl th : TO} {fl fh : MM (Option Int)} {p2 : Pos} (ha : DB X rc m a ta fa) (hl : DO X rc lo tl fl) (hh : DO X rc hi th fh) (hK : X.K = K := by rfl) : DE X rc (.Subscript a (.Slice lo hi none p2) pos) (tSl (rSlD K) ta tl th) (mSl fa fl fh) := by
  subst hK; exact de_slice ha hl hh
theorem kdg_tup (K : PySem.W.Frag) {es : List Expr} {k : Nat} {u : TGs} {fs : List D → Ev → Option Ev} {n : Nat} (hc : X.calm = true) (h : DGs X rc vs es u fs)
    (hn : (assignEach es X.env).length = n := by rfl) (hst : (assignEach es X.env).findIdx? (·.1) = none := by rfl) (hK : X.K = K := by rfl) : DG X rc vs (.Tuple es k pos) (gTup K n u) (gtTup n fs) := by
  subst hK; exact dg_tup hc h hn hst
theorem kop_eqD (K : PySem.W.Frag) (hu : X.A.units + 64 < cLine) (hK : X.K = K := by rfl) : OpR X (compareOp .Eq) (rEqD K) := by
  subst hK; exact op_eqD hu
theorem kop_neD (K : PySem.W.Frag) (hu : X.A.units + 64 < cLine) (hK : X.K = K := by rfl) : OpR X (compareOp .NotEq) (rNeD K) := by
  subst hK; exact op_neD hu
theorem kop_catA (K : PySem.W.Frag) (hK : X.K = K := by rfl) : OpR X (binaryOp .Add) (rCatA K) := by
  subst hK; exact op_catA
theorem kop_repT (K : PySem.W.Frag) (hK : X.K = K := by rfl) : OpR X (binaryOp .Mult) (rRepT K) := by
  subst hK; exact op_repT
theorem kcall_len (K : PySem.W.Frag) (hK : X.K = K := by rfl) : CallR X (.builtin "len") (fun xs H Q => ∃ p ys, xs = [.ref p] ∧ (SqL K H p ys ∨ SqT K H p ys) ∧ Q (.int ys.length) H) := by
  subst hK; exact call_len_seq
theorem kc_len (K : PySem.W.Frag) : CallS K rc (fun xs H Q => ∃ p ys, xs = [.ref p] ∧ (SqL K H p ys ∨ SqT K H p ys) ∧ Q (.int ys.length) H) dLen := fun Hs H x a d e hx ho Q q => by
  unfold dLen at ho
  cases a with
  | list ds =>
    cases ho
    obtain ⟨p, vs, rfl, h1, h2⟩ := hx.lst_inv e
    refine ⟨p, vs, rfl, .inl (SqL.of h1), ?_⟩
    rw [h2.length]
    exact q _ Hs H (.refl e) (fun _ w => w) (.int _)
  | tuple ds =>
    cases ho
    obtain ⟨p, vs, rfl, h1, h2⟩ := hx.tup_inv
    refine ⟨p, vs, rfl, .inr (seqT_same e h1), ?_⟩
    rw [h2.length]
    exact q _ Hs H (.refl e) (fun _ w => w) (.int _)
  | _ => cases ho
theorem kcr_sum (K : PySem.W.Frag) (hc : X.calm = true) (hK : X.K = K := by rfl) : CallR X (.builtin "sum") (rSumA K) := by
  subst hK; exact cr_sumA hc
theorem kcr_all (K : PySem.W.Frag) (hc : X.calm = true) (hK : X.K = K := by rfl) : CallR X (.builtin "all") (rAll K) := by
  subst hK; exact cr_all hc
theorem kcr_any (K : PySem.W.Frag) (hc : X.calm = true) (hK : X.K = K := by rfl) : CallR X (.builtin "any") (rAny K) := by
  subst hK; exact cr_any hc
theorem kcr_max (K : PySem.W.Frag) (hc : X.calm = true) (hK : X.K = K := by rfl) : CallR X (.builtin "max") (rMax K) := by
  subst hK; exact cr_max hc
theorem kcall_tuple (K : PySem.W.Frag) (hK : X.K = K := by rfl) : CallR X (.type "tuple") (fun xs H Q => ∃ p ys, xs = [.ref p] ∧ ((SqL K H p ys ∧ ∀ l, H l = none → Q (.ref l) (upd H l (.tup ys))) ∨ (SqT K H p ys ∧ Q (.ref p) H))) := by
  subst hK; exact call_tuple_of
theorem kdf_listOf (K : PySem.W.Frag) (ha : DB X rc m a te f) (hm : X.mg "list" = none) (hg : Gl X "list" := by rfl) (he : starEach (a :: []) X.env = (false, eval a X.env) :: starEach [] X.env := by rfl) (hpl : (backTo pos (starEach [] X.env)).any (·.1) = false := by rfl) (hK : X.K = K := by rfl) :
    DF X rc (.Call (.Name "list" p) [a] [] pos) (tCB (fun xs H Q => ∃ p ys, xs = [.ref p] ∧ (SqL K H p ys ∨ SqT K H p ys) ∧ ∀ l, H l = none → Q (.ref l) (upd H l (.lst ys))) (tCons te tNil)) (mBind f fun d => mO (dItems d)) := by
  subst hK; exact df_listOf ha hm hg he hpl
theorem kde_isi (K : PySem.W.Frag) {T : String} {y : Str} {pt : Pos} (ha : DB X rc m a te f) (hm : X.mg "isinstance" = none) (hmT : X.mg y = none) (hvT : bootBuiltins y = some (.type T)) (hg : Gl X "isinstance" := by rfl) (hgT : Gl X y := by rfl) (hnT : y ≠ "__name__" := by decide) (hdT : (y == ("__debug__" : Str)) = false := by decide)
    (he : starEach [a, .Name y pt] X.env = (false, eval a X.env) :: starEach [.Name y pt] X.env := by rfl) (he2 : starEach [.Name y pt] X.env = (false, eval (.Name y pt) X.env) :: starEach [] X.env := by rfl) (hpl : (backTo pos (starEach [.Name y pt] X.env)).any (·.1) = false := by rfl) (hK : X.K = K := by rfl) :
    DE X rc (.Call (.Name "isinstance" p) [a, .Name y pt] [] pos) (tCB (rIsi K) (tCons te (tCons (tC (.ty T)) tNil))) (mUn (dIsi T) f) := by
  subst hK; exact de_isi ha hm hmT hvT hg hgT hnT hdT he he2 hpl
theorem kde_isiTL (K : PySem.W.Frag) {p pt p1 p2 : Pos} {kt : Nat} (ha : DB X rc m a te f) (hm : X.mg "isinstance" = none) (hm1 : X.mg "tuple" = none) (hm2 : X.mg "list" = none) (hg : Gl X "isinstance" := by rfl) (hg1 : Gl X "tuple" := by rfl) (hg2 : Gl X "list" := by rfl)
    (he : starEach [a, .Tuple [.Name "tuple" p1, .Name "list" p2] kt pt] X.env = (false, eval a X.env) :: starEach [.Tuple [.Name "tuple" p1, .Name "list" p2] kt pt] X.env := by rfl)
    (he2 : starEach [.Tuple [.Name "tuple" p1, .Name "list" p2] kt pt] X.env = (false, eval (.Tuple [.Name "tuple" p1, .Name "list" p2] kt pt) X.env) :: starEach [] X.env := by rfl)
    (he3 : starEach [.Name "tuple" p1, .Name "list" p2] X.env = (false, eval (.Name "tuple" p1) X.env) :: starEach [.Name "list" p2] X.env := by rfl)
    (he4 : starEach [.Name "list" p2] X.env = (false, eval (.Name "list" p2) X.env) :: starEach [] X.env := by rfl)
    (hpl : (backTo pos (starEach [.Tuple [.Name "tuple" p1, .Name "list" p2] kt pt] X.env)).any (·.1) = false := by rfl) (hK : X.K = K := by rfl) :
    DE X rc (.Call (.Name "isinstance" p) [a, .Tuple [.Name "tuple" p1, .Name "list" p2] kt pt] [] pos) (tCB (rIsiT K) (tCons te (tCons (tTup (tCons (tC (.ty "tuple")) (tCons (tC (.ty "list")) tNil))) tNil))) (mUn dIsiTL f) := by
  subst hK; exact de_isiTL ha hm hm1 hm2 hg hg1 hg2 he he2 he3 he4 hpl
theorem kdi_seq (K : PySem.W.Frag) (h : DB X rc m e te f) (hK : X.K = K := by rfl) : DI X rc m tg e (iSeq K te) (mItems f) := by
  subst hK; exact di_seq h
theorem kdi_zip2 (K : PySem.W.Frag) {elts : List Expr} {kk : Nat} (hm : X.mg "zip" = none) (ha : DB X rc m e te f) (hb : DB X rc m e2 te2 f2) (hg : Gl X "zip" := by rfl)
    (hs : starEach [e, e2] X.env = (false, eval e X.env) :: starEach [e2] X.env := by rfl) (hs2 : starEach [e2] X.env = (false, eval e2 X.env) :: starEach [] X.env := by rfl) (hpl : (backTo pos (starEach [e2] X.env)).any (·.1) = false := by rfl) (hK : X.K = K := by rfl) :
    DI X rc m (.Tuple elts kk tpos) (.Call (.Name "zip" p) [e, e2] [] pos) (iZip2 K (tCons te (tCons te2 tNil))) (mZip2 f f2) := by
  subst hK; exact di_zip2 hm ha hb hg hs hs2 hpl
theorem kdi_zip3 (K : PySem.W.Frag) {elts : List Expr} {kk : Nat} (hm : X.mg "zip" = none) (ha : DB X rc m e te f) (hb : DB X rc m e2 te2 f2) (hc : DB X rc m e3 te3 f3) (hg : Gl X "zip" := by rfl)
    (hs : starEach [e, e2, e3] X.env = (false, eval e X.env) :: starEach [e2, e3] X.env := by rfl) (hs2 : starEach [e2, e3] X.env = (false, eval e2 X.env) :: starEach [e3] X.env := by rfl) (hs3 : starEach [e3] X.env = (false, eval e3 X.env) :: starEach [] X.env := by rfl) (hpl : (backTo pos (starEach [e2, e3] X.env)).any (·.1) = false := by rfl) (hK : X.K = K := by rfl) :
    DI X rc m (.Tuple elts kk tpos) (.Call (.Name "zip" p) [e, e2, e3] [] pos) (iZip3 K (tCons te (tCons te2 (tCons te3 tNil)))) (mZip3 f f2 f3) := by
  subst hK; exact di_zip3 hm ha hb hc hg hs hs2 hs3 hpl
theorem kdi_enum (K : PySem.W.Frag) {elts : List Expr} {kk : Nat} (hm : X.mg "enumerate" = none) (ha : DB X rc m e te f) (hg : Gl X "enumerate" := by rfl) (hs : starEach [e] X.env = [(false, eval e X.env)] := by rfl) (hK : X.K = K := by rfl) :
    DI X rc m (.Tuple elts kk tpos) (.Call (.Name "enumerate" p) [e] [] pos) (iEnum1 K (tCons te tNil)) (mEnum f) := by
  subst hK; exact di_enum hm ha hg hs
theorem kde_callP (K : PySem.W.Frag) {k : Nat} {F : List D → Option D} {dvs : List V} {dds : List D} (h : Has X.prog X.w X.K X.mg X.base x k dvs (spP X.K F)) (hr : Room k X.A) (hd : ∀ H, RpAll X.K H dvs dds) (ha : DA X rc (e :: es) t fl) (hg : Gl X x := by rfl) (hdb : (x == ("__debug__" : Str)) = false := by decide)
    (he : starEach (e :: es) X.env = (false, eval e X.env) :: starEach es X.env := by rfl) (hpl : (backTo pos (starEach es X.env)).any (·.1) = false := by rfl) (hK : X.K = K := by rfl) :
    DE X rc (.Call (.Name x p) (e :: es) [] pos) (tCall (spP K F) dvs E0 t) (mBind fl fun ds => mO (F (ds ++ dds))) := by
  subst hK; exact de_callP h hr hd ha hg hdb he hpl
theorem kde_callG (K : PySem.W.Frag) {k : Nat} {F : List Sl → DL.Row → Option (D × DL.Row)} {fl : MM (List Sl)} (h : Has X.prog X.w X.K X.mg X.base x k [] (spG X.K F)) (hr : Room k X.A) (ha : DR X rc (e :: es) t fl) (hg : Gl X x := by rfl) (hdb : (x == ("__debug__" : Str)) = false := by decide)
    (he : starEach (e :: es) X.env = (false, eval e X.env) :: starEach es X.env := by rfl) (hpl : (backTo pos (starEach es X.env)).any (·.1) = false := by rfl) (hK : X.K = K := by rfl) :
    DE X rc (.Call (.Name x p) (e :: es) [] pos) (tCall (spG K F) [] E0 t) (mCallG F fl) := by
  subst hK; exact de_callG h hr ha hg hdb he hpl
/-! a list's methods, with the name's own reading -/
theorem kds_append {apos cpos : Pos} {i : Nat} (he : DE X rc e te f) (hN : X.N[i]? = some x := by rfl) (hv : Vis X.env.scope x := by first | exact Or.inl rfl | exact Or.inr (Or.inl rfl) | exact Or.inr (Or.inr rfl)) (hd : (x == ("__debug__" : Str)) = false := by decide)
    (hcd : (x == ("__classdict__" : Str)) = false := by decide)
    (hb : attributeBase (.Name x p) "append" X.env (eval (.Name x p) X.env) = eval (.Name x p) X.env := by rfl)
    (h2 : (((backTo cpos (starEach [e] X.env)).all (!·.1) && (backToKw cpos (keywordEach [] X.env)).all (·.1.isSome)) && decide (([e].length + ([] : List Keyword).length + if ([] : List Keyword).isEmpty = true then 0 else 1) < 30)) = true := by rfl)
    (h3 : (apos.endLine == cpos.line) = true := by rfl) (h4 : starEach (e :: []) X.env = (false, eval e X.env) :: starEach [] X.env := by rfl) (h5 : (backTo cpos (starEach [] X.env)).any (·.1) = false := by rfl)
    (hs : swapsWith (.Call (.Attribute (.Name x p) "append" apos) [e] [] cpos) none pos.line X.env = pure false := by rfl) :
    DS X rc (.Expr (.Call (.Attribute (.Name x p) "append" apos) [e] [] cpos) pos) (tDrop (tBM X.K "list" rAppend (tVar i) (tCons te tNil))) (gAppend i f) :=
  ds_append he hN hv hd hcd (pe_append (pv i hN hv hd hcd) he hb h2 h3 h4 h5) hs
theorem kds_extend {apos cpos : Pos} {i : Nat} (he : DB X rc m e te f) (hN : X.N[i]? = some x := by rfl) (hv : Vis X.env.scope x := by first | exact Or.inl rfl | exact Or.inr (Or.inl rfl) | exact Or.inr (Or.inr rfl)) (hd : (x == ("__debug__" : Str)) = false := by decide)
    (hcd : (x == ("__classdict__" : Str)) = false := by decide)
    (hb : attributeBase (.Name x p) "extend" X.env (eval (.Name x p) X.env) = eval (.Name x p) X.env := by rfl)
    (h2 : (((backTo cpos (starEach [e] X.env)).all (!·.1) && (backToKw cpos (keywordEach [] X.env)).all (·.1.isSome)) && decide (([e].length + ([] : List Keyword).length + if ([] : List Keyword).isEmpty = true then 0 else 1) < 30)) = true := by rfl)
    (h3 : (apos.endLine == cpos.line) = true := by rfl) (h4 : starEach (e :: []) X.env = (false, eval e X.env) :: starEach [] X.env := by rfl) (h5 : (backTo cpos (starEach [] X.env)).any (·.1) = false := by rfl)
    (hs : swapsWith (.Call (.Attribute (.Name x p) "extend" apos) [e] [] cpos) none pos.line X.env = pure false := by rfl) :
    DS X rc (.Expr (.Call (.Attribute (.Name x p) "extend" apos) [e] [] cpos) pos) (tDrop (tBM X.K "list" rExtend (tVar i) (tCons te tNil))) (gExtend i f) :=
  ds_extend he hN hv (pe_extend (pv i hN hv hd hcd) he hb h2 h3 h4 h5) hs
theorem kds_insert {apos cpos : Pos} {i : Nat} (ha : DE X rc a te f) (hb2 : DE X rc b te2 f2) (hN : X.N[i]? = some x := by rfl) (hv : Vis X.env.scope x := by first | exact Or.inl rfl | exact Or.inr (Or.inl rfl) | exact Or.inr (Or.inr rfl)) (hd : (x == ("__debug__" : Str)) = false := by decide)
    (hcd : (x == ("__classdict__" : Str)) = false := by decide)
    (hb : attributeBase (.Name x p) "insert" X.env (eval (.Name x p) X.env) = eval (.Name x p) X.env := by rfl)
    (h2 : (((backTo cpos (starEach [a, b] X.env)).all (!·.1) && (backToKw cpos (keywordEach [] X.env)).all (·.1.isSome)) && decide (([a, b].length + ([] : List Keyword).length + if ([] : List Keyword).isEmpty = true then 0 else 1) < 30)) = true := by rfl)
    (h3 : (apos.endLine == cpos.line) = true := by rfl) (h4 : starEach [a, b] X.env = (false, eval a X.env) :: starEach [b] X.env := by rfl) (h6 : starEach [b] X.env = (false, eval b X.env) :: starEach [] X.env := by rfl) (h5 : (backTo cpos (starEach [b] X.env)).any (·.1) = false := by rfl)
    (hs : swapsWith (.Call (.Attribute (.Name x p) "insert" apos) [a, b] [] cpos) none pos.line X.env = pure false := by rfl) :
    DS X rc (.Expr (.Call (.Attribute (.Name x p) "insert" apos) [a, b] [] cpos) pos) (tDrop (tBM X.K "list" rInsert (tVar i) (tCons te (tCons te2 tNil)))) (gInsert i f f2) :=
  ds_insert ha hb2 hN hv (pe_insert (pv i hN hv hd hcd) ha hb2 hb h2 h3 h4 h6 h5) hs
end
theorem no_spP {K : PySem.W.Frag} {vs : List V} {H : Hp} {Q : VK} {E : XK} (h : spP K (fun _ => none) vs H Q E) : False := by
  obtain ⟨_, _, _, _, _, h, _⟩ := h
  cases h
section
variable {X : Cx} {rc : Rc} {m : Bool} {a : Expr} {pos : Pos} {ta : TE} {fa : MM D}
theorem dt_isN {j} {pos'} (ha : DB X rc m a ta fa) (h1 : behindInMarks .Is (.Constant .none j pos') = false := by exact nomark _) : DT X rc (.Compare a [.Is] [.Constant .none j pos'] pos) (tB (tIsN ta)) (mTest (mUn (fun d => some (.bool (dIsN d))) fa)) := ⟨pt_cmp (pc_isN ha.pe) h1, sem_test (de_isN (pos := pos) (j := j) (pos' := pos') ha).se⟩
theorem dt_notN {j} {pos'} (ha : DB X rc m a ta fa) (h1 : behindInMarks .IsNot (.Constant .none j pos') = false := by exact nomark _) : DT X rc (.Compare a [.IsNot] [.Constant .none j pos'] pos) (tB (tNotN ta)) (mTest (mUn (fun d => some (.bool (!dIsN d))) fa)) := ⟨pt_cmp (pc_notN ha.pe) h1, sem_test (de_notN (pos := pos) (j := j) (pos' := pos') ha).se⟩
end
end DL

namespace DL
open PySem PySem.Spec PyProof.Rows L2
/-! ### the law's end, with the module's NoSeer (for divisions of big ints) -/
/-- only the script's list may be hidden: the rest of the heap is the heap -/
structure OnlyAt (h : Heap) (H : Hp) (a : Addr) (vs : List Value) : Prop where
  at_ : h.get? a = some { cls := .type "list", data := .seq vs.toArray }
  only : ∀ b, b ≠ a → H b = none
section
variable {h : Heap} {H : Hp} {a : Addr} {vs : List Value}
theorem OnlyAt.get (O : OnlyAt h H a vs) {b : Addr} {o : Obj} (e : h.get? b = some o) (hd : o.cls ≠ .type "list" ∨ ∀ xs n, o.data ≠ .seq xs n) : (hidT h H).get? b = some o :=
  hidT_get e (O.only b fun q => by
    subst q
    rw [O.at_] at e
    cases e
    rcases hd with hd | hd
    · exact hd rfl
    · exact hd _ _ rfl)
theorem OnlyAt.ns (O : OnlyAt h H a vs) {b : Addr} {m : Str → Option Value} (n : h.Ns b m) : (hidT h H).Ns b m := by
  obtain ⟨o, es, ep, e, d, r⟩ := n
  exact ⟨o, es, ep, O.get e (.inr fun xs n z => by rw [d] at z; cases z), d, r⟩
theorem OnlyAt.seer (O : OnlyAt h H a vs) (S : h.NoSeer) : (hidT h H).NoSeer where
  statics := let ⟨m, n, r⟩ := S.statics; ⟨m, O.ns n, r⟩
  mods := let ⟨m, n, r⟩ := S.mods; ⟨m, O.ns n, r⟩
  imp := let ⟨m, n, r⟩ := S.imp; ⟨m, O.ns n, r⟩
  main := let ⟨mg, bm, ob, n, r1, r2, r3, r4⟩ := S.main; ⟨mg, bm, ob, O.ns n, r1, O.get r2 (.inl (by rw [r3]; simp)), r3, r4⟩
end
theorem law_callS {P : Program} {w : World} {K : PySem.W.Frag} {mg mb : Str → Option Value} {k : Nat} {fa a : Addr} {fd : FuncData} {x : Str} {sp : Sp} {s : Shared} {vs : List Value} {ns : List Int}
    (KX : K.In s.heap) (hns : s.heap.Ns mainGlobals mg) (hb : s.heap.Ns builtinsNs mb) (hbb : ∀ x : Str, x ≠ "__name__" → mb x = bootBuiltins x) (hlim : s.heap.NoLimit) (hS : s.heap.NoSeer) (hg : s.gens = #[])
    (ha : s.heap.get? a = some { cls := .type "list", data := .seq vs.toArray }) (hi : IntsAre vs ns) (hl : ns.length ≤ sizeLine) (hr : Room k callerA)
    (F : ∀ base : Heap, K.In base → base.Ns mainGlobals mg → base.NoSeer → FnOk P w K mg base CX0 k fa fd [x] sp) (hbind : ∀ (s : Shared) (u : Value), BindsTo s fd ⟨[u], []⟩ [(x, u)])
    (hsp : ∀ H : Hp, SqL K H a (ns.map V.int) → sp [.ref a] H (fun v _ => v = .bl true) fun _ _ _ => False) :
    codeAny (model P w) callerA (.call (.ref fa) ⟨[.ref a], []⟩) (fun r s' => r = .ok (.ret (.bool true)) ∧ OldK s.heap s'.heap ∧ s'.os = s.os ∧ AllBare s'.gens) s := by
  have rv := vals_ints hi
  have main : ∀ H : Hp, OnlyAt s.heap H a vs → (∀ u, H a = some u → K.lookup a = none ∧ ∃ o xs, u = .frz o (.lst xs)) → SqL K H a (ns.map V.int) → HOk P w H s.heap → codeAny (model P w) callerA (.call (.ref fa) ⟨[.ref a], []⟩) (fun r s' => r = .ok (.ret (.bool true)) ∧ OldK s.heap s'.heap ∧ s'.os = s.os ∧ AllBare s'.gens) s := by
    intro H O hu hq hok
    have KB : K.In (hidT s.heap H) := fun b o e => hidT_get (KX b o e) (by
      by_cases z : b = a
      · subst z
        cases q : H b with
        | none => rfl
        | some u => rw [(hu u q).1] at e; cases e
      · exact O.only b z)
    have M : Mod K mg (hidT s.heap H) := ⟨KB, O.ns hns, ⟨mb, O.ns hb, hbb⟩, let ⟨mc, n1, n2⟩ := hlim; ⟨mc, O.ns n1, n2⟩⟩
    have e0 : Env0 P w K mg (hidT s.heap H) callerA [] s H := ⟨rfl, M, fun b o e => of_hidT e, Nat.le_of_eq (hidT_size _ _), trivial, fun b q => absurd (show b ∈ ([] : List Addr) from q) (by simp), hok, .of_eq hg⟩
    refine codeAny_mono ((F _ KB (O.ns hns) (O.seer hS)).run callerA [] s H ⟨[.ref a], []⟩ [.ref a] [.ref a] _ _ hr e0 (hbind s (.ref a)) (.cons rfl .nil) (hsp H hq)) fun r s' q => ?_
    match r, q with
    | .error e, q => exact (show False from q).elim
    | .ok .next, q => exact (show False from q).elim
    | .ok .brk, q => exact (show False from q).elim
    | .ok .cont, q => exact (show False from q).elim
    | .ok (.ret u), ⟨v, H', os, bare, un, hok', rel, (hv : v = .bl true)⟩ =>
      subst hv
      obtain rfl : u = Value.bool true := rel
      refine ⟨rfl, OldK.of_keep fun b o e => ?_, os, bare⟩
      cases z : H b with
      | none => exact un.keep b o e z (by intro y; exact absurd (show b ∈ ([] : List Addr) from y) (by simp)) (by simp)
      | some u =>
        have eb : b = a := Classical.byContradiction fun n => by rw [O.only b n] at z; cases z
        subst eb
        obtain ⟨_, ob, xs, rfl⟩ := hu u z
        obtain ⟨e1, _⟩ := hok b _ z
        obtain ⟨e2, _⟩ := hok' b _ (un.frzs b ob _ z)
        rw [e] at e1
        cases e1
        exact e2
  cases hk : K.lookup a with
  | some o =>
    have e := KX a o hk
    rw [ha] at e
    cases e
    exact main (fun _ => none) ⟨ha, fun _ _ => rfl⟩ (fun u z => nomatch z) (.inr ⟨_, vs.toArray, _, hk, rfl, rfl, rfl, by rw [List.size_toArray, hi.length]; exact hl, by simpa using rv⟩) (fun b u z => nomatch (show (none : Option HO) = some u from z))
  | none =>
    refine main (fun b => if b = a then some (.frz { cls := .type "list", data := .seq vs.toArray } (.lst (ns.map V.int))) else none) ⟨ha, fun b n => if_neg n⟩ (fun u z => ?_) (.inl (.inr ⟨_, if_pos rfl⟩)) (fun b u z => ?_)
    · have z' := (if_pos rfl).symm.trans z
      cases z'
      exact ⟨hk, _, _, rfl⟩
    · by_cases hb : b = a
      · have z' := (if_pos hb).symm.trans z
        cases z'
        subst hb
        exact ⟨ha, by rw [List.length_map]; exact hl, vs, _, rv, ha⟩
      · have z' := (if_neg hb).symm.trans z
        cases z'
theorem walk_ofS {l : PySem.W.OpenLaw} {n k : Nat} {q : Program} {loose : List Str} {XP : (Str → Option Value) → Heap → Prop} {YP : World → Heap → Prop} {d : DefRec} {x : Str}
    (hn : l.most = some n) (hn2 : n ≤ sizeLine) (hdf : d.params.defaults = []) (hr : Room k callerA) (hq : importsNone q = true)
    (F : ∀ (w : World) (mg : Str → Option Value) (fa : Addr) (h : Heap), YP w h → h.Ns mainGlobals mg → mg d.name = some (.ref fa) →
      ∃ (K : PySem.W.Frag) (fd : FuncData) (sp : Sp), K.In h ∧ (∀ (s : Shared) (u : Value), BindsTo s fd ⟨[u], []⟩ [(x, u)]) ∧
        (∀ (H : Hp) (a : Addr) (ns : List Int), ns.length ≤ n → SqL K H a (ns.map V.int) → sp [.ref a] H (fun v _ => v = .bl true) fun _ _ _ => False) ∧
        ∀ base : Heap, K.In base → base.Ns mainGlobals mg → base.NoSeer → FnOk l.prog w K mg base CX0 k fa fd [x] sp) :
    PySem.W.WalkO q loose XP YP l.row.toRowW d [] (fun f vs => PySem.call f vs) := by
  refine Att.attach_call hn hdf fun w s₀ s₁ mg mb fa o pm cd doc a vs ns G Y ho hd hcd hmg hobj hints hlen hg => ?_
  obtain ⟨K, fd, sp, KX, hb, hsp, hF⟩ := F w mg fa _ Y G.T.g hmg
  exact law_callS KX G.T.g G.T.b G.T.builtins G.T.nolimit (G.T.seer hq) hg hobj hints (Nat.le_trans hlen hn2) hr hF hb (fun H hS => hsp H a ns hlen hS)
end DL

namespace DL
open PySem PySem.Spec PyProof.Rows L2
/-! ### the row's own cells -/
def rowGet (r : Row) : Nat → Option Int
  | 1 => some r.2.1
  | 2 => some r.2.2.1
  | 3 => some r.2.2.2
  | _ => none
def rowSet (r : Row) (v : Int) : Nat → Option Row
  | 1 => some (r.1, v, r.2.2.1, r.2.2.2)
  | 2 => some (r.1, r.2.1, v, r.2.2.2)
  | 3 => some (r.1, r.2.1, r.2.2.1, v)
  | _ => none
theorem rowGet_at {sc : Addr} {r : Row} {j : Nat} {v : Int} (h : rowGet r j = some v) : L2.atI (rowV sc r) (j : Int) = some (.int v) := by
  match j, h with
  | 1, h => cases h; rfl
  | 2, h => cases h; rfl
  | 3, h => cases h; rfl
theorem rowSet_at {sc : Addr} {r r' : Row} {v : Int} {j : Nat} (h : rowSet r v j = some r') : ixN (rowV sc r).length (j : Int) = some j ∧ (rowV sc r).set j (.int v) = rowV sc r' ∧ r'.1 = r.1 := by
  match j, h with
  | 1, h => cases h; exact ⟨rfl, rfl, rfl⟩
  | 2, h => cases h; exact ⟨rfl, rfl, rfl⟩
  | 3, h => cases h; exact ⟨rfl, rfl, rfl⟩
section
variable {X : Cx} {rc : Rc} {x : Str} {i j : Nat} {p pos cpos ipos lpos : Pos} {e : Expr} {te : TE} {f : MM D} {kc : Nat}
def mRowI (i j : Nat) : MM D := fun ρ => match ρ.get i with
  | .row => (match rowGet ρ.row j with
    | some v => some (.int v, ρ.row)
    | none => none)
  | _ => none
/-- what a row's slot tells -/
theorem row_slot {K : PySem.W.Frag} {Hs0 H0 Hs H : Hp} {σ : L2.St} {ρ : Ev} (R : Rel K rc Hs0 H0 σ Hs H ρ) (e : ρ.get i = .row) :
    ∃ a sc, rc = some (a, sc, ρ.row.1) ∧ σ[i]? = some (some (.ref a)) ∧ H a = some (.lst (rowV sc ρ.row)) ∧ SqL K H sc (ρ.row.1.map V.int) := by
  have h := R.sl i
  rw [e] at h
  obtain ⟨a, h1, h2⟩ := h
  cases hr : rc with
  | none => rw [hr] at h1; cases h1
  | some q =>
    obtain ⟨a', sc, ns⟩ := q
    rw [hr] at h1
    cases h1
    have r := R.row
    rw [hr] at r
    obtain ⟨⟨r1, r2⟩, r3⟩ := r
    subst r2
    exact ⟨a', sc, rfl, h2, r1, r3⟩
theorem de_rowI (hN : X.N[i]? = some x := by rfl) (hv : Vis X.env.scope x := by first | exact Or.inl rfl | exact Or.inr (Or.inl rfl) | exact Or.inr (Or.inr rfl)) (hd : (x == ("__debug__" : Str)) = false := by decide)
    (hcd : (x == ("__classdict__" : Str)) = false := by decide) (hj : ((j : Nat) : Int) = (j : Int) := by rfl) (hs : PlainIx (.Constant (.int (j : Int)) kc cpos) := by exact fun _ _ => rfl) :
    DE X rc (.Subscript (.Name x p) (.Constant (.int (j : Int)) kc cpos) pos) (tOp (rIx X.K) (tVar i) (tC (.int (j : Int)))) (mRowI i j) := ⟨pe_ix ix_seq (pe_var hN hv hd hcd) pe_int hs, fun Hs0 H0 σ Hs H ρ R d w hf Q q => by
  unfold mRowI at hf
  cases e1 : ρ.get i with
  | row =>
    rw [e1] at hf
    simp only at hf
    cases e2 : rowGet ρ.row j with
    | none => rw [e2] at hf; cases hf
    | some v =>
      rw [e2] at hf
      cases hf
      obtain ⟨a, sc, h1, h2, h3, h4⟩ := row_slot R e1
      exact ⟨_, h2, .inl ⟨a, _, _, _, rfl, rfl, SqL.of h3, rowGet_at e2, q _ Hs H (.refl R.same) R.row (.int v)⟩⟩
  | _ => rw [e1] at hf; cases hf⟩
def mRowLen (i : Nat) : MM D := fun ρ => match ρ.get i with
  | .row => some (.int ρ.row.1.length, ρ.row)
  | _ => none
theorem row_scr {K : PySem.W.Frag} {sc : Addr} {r : Row} : L2.atI (rowV sc r) 0 = some (.ref sc) := rfl
theorem de_rowLen {np : Pos} (hm : X.mg "len" = none) (hg : Gl X "len" := by rfl) (hN : X.N[i]? = some x := by rfl) (hv : Vis X.env.scope x := by first | exact Or.inl rfl | exact Or.inr (Or.inl rfl) | exact Or.inr (Or.inr rfl)) (hd : (x == ("__debug__" : Str)) = false := by decide)
    (hcd : (x == ("__classdict__" : Str)) = false := by decide) (hs : PlainIx (.Constant (.int 0) kc cpos) := by exact fun _ _ => rfl)
    (he : starEach ((.Subscript (.Name x p) (.Constant (.int 0) kc cpos) ipos) :: []) X.env = (false, eval (.Subscript (.Name x p) (.Constant (.int 0) kc cpos) ipos) X.env) :: starEach [] X.env := by rfl) (hpl : (backTo pos (starEach [] X.env)).any (·.1) = false := by rfl) :
    DE X rc (.Call (.Name "len" np) [.Subscript (.Name x p) (.Constant (.int 0) kc cpos) ipos] [] pos) (tCB (fun xs H Q => ∃ p ys, xs = [.ref p] ∧ (SqL X.K H p ys ∨ SqT X.K H p ys) ∧ Q (.int ys.length) H) (tCons (tOp (rIx X.K) (tVar i) (tC (.int 0))) tNil)) (mRowLen i) :=
  ⟨L2.pe_callB call_len_seq hg hm PySem.boot_len (pa_cons (pe_ix ix_seq (pe_var hN hv hd hcd) pe_int hs) pa_nil he) (by decide) (by decide) he hpl, fun Hs0 H0 σ Hs H ρ R d w hf Q q => by
  unfold mRowLen at hf
  cases e1 : ρ.get i with
  | row =>
    rw [e1] at hf
    cases hf
    obtain ⟨a, sc, h1, h2, h3, h4⟩ := row_slot R e1
    refine ⟨_, h2, .inl ⟨a, _, _, _, rfl, rfl, SqL.of h3, rfl, sc, _, rfl, .inl h4, ?_⟩⟩
    rw [List.length_map]
    exact q _ Hs H (.refl R.same) R.row (.int _)
  | _ => rw [e1] at hf; cases hf⟩
def mRowCell (i : Nat) (f : MM D) : MM D := fun ρ => match ρ.get i with
  | .row => (match f ρ with
    | some (.int k, r) => if r.1 = ρ.row.1 then (match L2.atI (r.1) k with
      | some v => some (.int v, r)
      | none => none) else none
    | _ => none)
  | _ => none
theorem atI_map {l : List Int} {k v : Int} (h : L2.atI l k = some v) : L2.atI (l.map V.int) k = some (.int v) := by
  unfold L2.atI at h ⊢
  rw [List.length_map]
  cases q : ixN l.length k with
  | none => rw [q] at h; cases h
  | some j =>
    rw [q] at h
    show (l.map V.int)[j]? = _
    rw [List.getElem?_map, show l[j]? = some v from h]
    rfl
theorem de_rowCell (hi : DE X rc e te f) (hN : X.N[i]? = some x := by rfl) (hv : Vis X.env.scope x := by first | exact Or.inl rfl | exact Or.inr (Or.inl rfl) | exact Or.inr (Or.inr rfl)) (hd : (x == ("__debug__" : Str)) = false := by decide)
    (hcd : (x == ("__classdict__" : Str)) = false := by decide) (hs : PlainIx (.Constant (.int 0) kc cpos) := by exact fun _ _ => rfl) (hs2 : PlainIx e := by exact fun _ _ => rfl) :
    DE X rc (.Subscript (.Subscript (.Name x p) (.Constant (.int 0) kc cpos) ipos) e pos) (tOp (rIx X.K) (tOp (rIx X.K) (tVar i) (tC (.int 0))) te) (mRowCell i f) :=
  ⟨pe_ix ix_seq (pe_ix ix_seq (pe_var hN hv hd hcd) pe_int hs) hi.pe hs2, fun Hs0 H0 σ Hs H ρ R d w hf Q q => by
  unfold mRowCell at hf
  cases e1 : ρ.get i with
  | row =>
    rw [e1] at hf
    simp only at hf
    cases e2 : f ρ with
    | none => rw [e2] at hf; cases hf
    | some pr =>
      obtain ⟨kd, r⟩ := pr
      rw [e2] at hf
      cases kd with
      | int k =>
        simp only at hf
        by_cases hr : r.1 = ρ.row.1
        · rw [if_pos hr] at hf
          cases e3 : L2.atI r.1 k with
          | none => rw [e3] at hf; cases hf
          | some v =>
            rw [e3] at hf
            cases hf
            obtain ⟨a, sc, h1, h2, h3, h4⟩ := row_slot R e1
            refine ⟨_, h2, .inl ⟨a, _, _, _, rfl, rfl, SqL.of h3, rfl, ?_⟩⟩
            refine hi.se Hs0 H0 σ Hs H ρ R _ _ e2 _ fun y Hs1 H1 ex w1 p1 => ?_
            have w2 := w1
            rw [h1] at w2
            exact .inl ⟨sc, _, k, _, rfl, p1.int_inv, w2.2, atI_map (by rw [← hr]; exact e3), q _ Hs1 H1 ex w1 (.int _)⟩
        · rw [if_neg hr] at hf; cases hf
      | _ => cases hf
  | _ => rw [e1] at hf; cases hf⟩
/-- row[j] = e -/
def gRowSet (i j : Nat) (f : MM D) : MS := fun ρ => match f ρ with
  | some (.int v, r) => (match ρ.get i, rowSet r v j with
    | .row, some r' => some (.nx (ρ.wr r'))
    | _, _ => none)
  | _ => none
theorem ds_rowSet {apos : Pos} (he : DE X rc e te f) (hN : X.N[i]? = some x := by rfl) (hv : Vis X.env.scope x := by first | exact Or.inl rfl | exact Or.inr (Or.inl rfl) | exact Or.inr (Or.inr rfl)) (hd : (x == ("__debug__" : Str)) = false := by decide)
    (hcd : (x == ("__classdict__" : Str)) = false := by decide)
    (ha : ∀ v, assign (.Subscript (.Name x p) (.Constant (.int (j : Int)) kc cpos) apos) X.env v = (do
      let ov ← holding [v] (eval (.Name x p) X.env)
      let iv ← holding [v, ov] (eval (.Constant (.int (j : Int)) kc cpos) X.env)
      standAt apos
      holding [v, ov, iv] (setItem ov iv v)
      release [v, ov, iv] []) := by intro _; rfl)
    (hs : swapsWithSole [.Subscript (.Name x p) (.Constant (.int (j : Int)) kc cpos) apos] e pos.line X.env = pure false := by rfl) (hw : swappedStores [.Subscript (.Name x p) (.Constant (.int (j : Int)) kc cpos) apos] e X.env = pure none := by rfl)
    (h1 : (assignEach [.Subscript (.Name x p) (.Constant (.int (j : Int)) kc cpos) apos] X.env).map (·.2) = [assign (.Subscript (.Name x p) (.Constant (.int (j : Int)) kc cpos) apos) X.env] := by rfl) :
    DS X rc (.Assign [.Subscript (.Name x p) (.Constant (.int (j : Int)) kc cpos) apos] e pos) (tAsg te (gSub (tVar i) (tC (.int (j : Int))) rSetL)) (gRowSet i j f) :=
  ⟨ps_asg he.pe (pg_sub (pe_var hN hv hd hcd) pe_int set_list ha) hs hw h1, fun Hs0 H0 σ Hs H ρ R oc hf E P => by
  unfold gRowSet at hf
  cases e1 : f ρ with
  | none => rw [e1] at hf; cases hf
  | some pr =>
    obtain ⟨vd, r⟩ := pr
    rw [e1] at hf
    cases vd with
    | int v =>
      simp only at hf
      cases e2 : ρ.get i with
      | row =>
        cases e3 : rowSet r v j with
        | none => rw [e2, e3] at hf; cases hf
        | some r' =>
          rw [e2, e3] at hf
          cases hf
          refine he.se Hs0 H0 σ Hs H ρ R _ _ e1 _ fun y Hs1 H1 ex w1 p1 => ?_
          have R1 := R.ext' ex w1
          obtain ⟨a, sc, h1, h2, h3, h4⟩ := row_slot R1 (show (ρ.wr r).get i = .row from e2)
          obtain ⟨h5, h6, h7⟩ := rowSet_at (sc := sc) e3
          obtain rfl := p1.int_inv
          refine ⟨_, h2, a, _, _, j, rfl, rfl, h3, h5, ?_⟩
          show E.nx σ (upd H1 a (.lst ((rowV sc r).set j (.int v))))
          rw [h6]
          have h1' : rc = some (a, sc, r.1) := h1
          have ha0 : rc.ad = some a := by rw [h1']; rfl
          obtain ⟨n0, nS0⟩ := R.rn a ha0
          have nS1 : Hs1 a = none := R1.ext.p a n0 nS0
          have ex2 : Ext rc Hs1 H1 Hs1 (upd H1 a (.lst (rowV sc r'))) := by
            refine ⟨Same.refl _, fun b o e => ?_, fun b o n e => ?_, fun b e => ?_, fun b _ e => e⟩
            · rw [upd_ne (fun z => by rw [z, nS1] at e; cases e)]; exact ex.s b o e
            · rw [upd_ne (fun z => n (by rw [z]; exact ha0))]; exact e
            · by_cases z : b = a
              · subst z; rw [upd_same]; simp
              · rw [upd_ne z]; exact e
          have nsc : ∀ o, H1 sc = some o → (∃ u ys, o = .frz u (.lst ys)) ∨ (∃ ys, o = .lst ys ∧ ys.length = r.1.length) → True := fun _ _ _ => trivial
          have scOld : SqL X.K H1 sc (r.1.map V.int) := h4
          have hsc : SqL X.K (upd H1 a (.lst (rowV sc r'))) sc (r'.1.map V.int) := by
            rw [h7]
            have z : sc ≠ a ∨ sc = a := by by_cases z : sc = a; exact .inr z; exact .inl z
            rcases scOld with hq | hq
            · have nsa : sc ≠ a := by
                intro z
                subst z
                have h3' : H1 sc = some (.lst (rowV sc r)) := h3
                rcases hq with hq | ⟨o, hq⟩
                · rw [h3'] at hq
                  have hq' := HO.lst.inj (Option.some.inj hq)
                  cases hm : r.1 with
                  | nil => rw [hm] at hq'; cases hq'
                  | cons z zs => rw [hm] at hq'; cases hq'
                · rw [h3'] at hq; cases hq
              rcases hq with hq | ⟨o, hq⟩
              · exact .inl (.inl (by rw [upd_ne nsa]; exact hq))
              · exact .inl (.inr ⟨o, by rw [upd_ne nsa]; exact hq⟩)
            · exact .inr hq
          have w3 : RowAt X.K rc (upd H1 a (.lst (rowV sc r'))) r' := by
            rw [h1']
            exact ⟨⟨upd_same, h7⟩, by rw [← h7]; exact hsc⟩
          have R2 := R1.ext' ex2 w3
          exact P σ Hs1 _ ex.g R2
      | _ => rw [e2] at hf; cases hf
    | _ => cases hf⟩
theorem s_pow {K : PySem.W.Frag} : OpS K rc (rI CPow fun i j => .int (i ^ j.toNat)) dPow := ops_rI fun a b d h => by
  cases a <;> cases b <;> try (cases h)
  rename_i i j
  unfold dPow at h
  simp only at h
  by_cases c : 0 ≤ j ∧ j ≤ 1000 ∧ i.natAbs < 2 ^ 64
  · rw [if_pos c] at h
    cases h
    exact ⟨_, _, rfl, rfl, ⟨c.1, by omega, c.2.2⟩, fun _ => .int _⟩
  · rw [if_neg c] at h; cases h
end
/-! ### the law: its first statement makes the row -/
section
variable {P : Program} {w : World} {K : PySem.W.Frag} {mg : Str → Option Value} {base : Heap} {qual x : Str} {params : Arguments} {body : List Stmt} {scope : Scope} {f : Addr} {fd : FuncData} {N : List Str} {k : Nat} {g : MS}
abbrev tRow (sd : Int) : TS := tAsg (tLst (tCons (tVar 0) (tCons (tC (.int 0)) (tCons (tC (.int sd)) (tCons (tC (.int 0)) tNil))))) (gName 1)
/-- the frame behind the first statement -/
def ev0 (sd : Int) (n : Nat) (ns : List Int) : Ev := ⟨(ns, 0, sd, 0), .no :: .row :: List.replicate (n - 2) .no⟩
theorem ev0_get (sd : Int) (n : Nat) (ns : List Int) (i : Nat) : (ev0 sd n ns).get (i + 2) = .no := by
  show (List.replicate (n - 2) Sl.no).getD i .no = .no
  rw [List.getD_eq_getElem?_getD, List.getElem?_replicate]
  split <;> rfl
/-- the law's promise -/
def spLaw (K : PySem.W.Frag) (sd : Int) (g : MS) (n : Nat) : Sp := fun vs H Q _ => ∃ a ns, vs = [.ref a] ∧ SqL K H a (ns.map V.int) ∧ (∃ w', g (ev0 sd n ns) = some (.ret (.bool true) w')) ∧ ∀ H', Q (.bl true) H'
theorem law_okG {sd : Int} {p1 p2 : Str} {ns : List Str} {st : Stmt} {rest : List Stmt} (F : FunD K x qual params (st :: rest) scope [] [] f fd) (S : FnScope N [p1] scope) (hn : N.length = ns.length + 2)
    (hb : ∀ (cdv : Value) (A : Around) (outer : List Env) (s : Shared) (H : Hp) (E : XK), Room k (A.deeper (envOfC qual scope s.heap.objs.size f cdv)) → PS (cxOf CX0 P w K mg base N qual scope f cdv A outer s H E).nox st (tRow sd) ∧ ∃ t, ∀ rc, DSs (cxOf CX0 P w K mg base N qual scope f cdv A outer s H E).nox rc rest t g) :
    FnOk P w K mg base CX0 (k + 1) f fd [p1] (spLaw K sd g N.length) := by
  refine F.ok S (fun vs H Q E h => ?_) (fun cdv A outer s H vs Q E hr h => ?_)
  · obtain ⟨a, is, rfl, _⟩ := h
    rfl
  · obtain ⟨a, is, rfl, h2, ⟨w', h3⟩, h4⟩ := h
    obtain ⟨h5, t, ht⟩ := hb cdv A outer s H E hr
    refine ⟨tSeq (tRow sd) t, PSs.nox (pss_cons h5 (ht none).ps), ?_⟩
    refine ⟨.ref a, rfl, ?_⟩
    refine ⟨by show 4 ≤ sizeLine; decide, fun l hl => ?_⟩
    have nl : ∀ b o, H b = some o → b ≠ l := fun b o e z => by rw [z, hl] at e; cases e
    have R : Rel K (some (l, a, is)) (fun _ => none) (upd H l (.lst (rowV a (is, 0, sd, 0)))) ((start N [.ref a]).set 1 (some (.ref l))) (fun _ => none) (upd H l (.lst (rowV a (is, 0, sd, 0)))) (ev0 sd N.length is) := by
      have hq : SqL K (upd H l (.lst (rowV a (is, 0, sd, 0)))) a (is.map V.int) := by
        rcases h2 with (h2 | ⟨o, h2⟩) | h2
        · exact .inl (.inl (by rw [upd_ne (nl _ _ h2)]; exact h2))
        · exact .inl (.inr ⟨o, by rw [upd_ne (nl _ _ h2)]; exact h2⟩)
        · exact .inr h2
      refine ⟨.refl (fun b o e => by cases e), (fun b o e => by cases e), ⟨⟨upd_same, rfl⟩, hq⟩, fun b e => ?_, fun b sc ms e => ?_, ?_, fun i => ?_, fun i j p hij hi hj => ?_⟩
      · cases e
        exact ⟨by rw [upd_same]; simp, rfl⟩
      · cases e
        exact hq
      · simp [ev0, L2.start]
        omega
      · match i with
        | 0 => trivial
        | 1 =>
          refine ⟨l, rfl, ?_⟩
          rw [List.getElem?_set_self]
          simp [L2.start]
          omega
        | i + 2 =>
          have : (ev0 sd N.length is).get (i + 2) = .no := by
            exact ev0_get _ _ _ _
          rw [this]; trivial
      · match i with
        | 0 => exact hi.elim
        | 1 => exact hi.elim
        | i + 2 =>
          have : (ev0 sd N.length is).get (i + 2) = .no := by
            exact ev0_get _ _ _ _
          rw [this] at hi; exact hi.elim
    exact (ht (some (l, a, is))).se _ _ _ _ _ _ R _ h3 _ fun v Hs' H' ex wr p => by
      cases p
      exact h4 H'
end
/-! ### tuples of ints that the top made -/
def tupBA (K : PySem.W.Frag) (a : Addr) (is : List Int) : Bool := match K.lookup a with
  | some ⟨.type c, _, .seq its _, _⟩ => decide (c = "tuple") && (decide (its.size ≤ sizeLine) && He.relAll (is.map V.int) its.toList)
  | _ => false
theorem rp_ints {K : PySem.W.Frag} {H : Hp} : ∀ is : List Int, RpAll K H (is.map V.int) (is.map PyData.int)
  | [] => .nil
  | i :: r => .cons (.int i) (rp_ints r)
theorem rp_tupBA {K : PySem.W.Frag} {a : Addr} {is : List Int} (h : tupBA K a is = true) (H : Hp) : Rp K H (.ref a) (.tuple (is.map PyData.int)) := by
  refine .tup (xs := is.map V.int) ?_ (rp_ints is)
  unfold tupBA at h
  split at h
  · rename_i c d its n sl q
    simp only [Bool.and_eq_true, decide_eq_true_eq] at h
    exact .inr ⟨_, its, n, q, congrArg Value.type h.1, rfl, h.2.1, He.relAll_ok h.2.2⟩
  · cases h
/-! ### two names at once, one of them a cell: by a pair -/
section
variable {X : Cx} {rc : Rc} {a b : Expr} {pos : Pos} {ta tb : TE} {fa fb : MM Sl} {i j : Nat} {x y : Str}
theorem ds_parC {px py pt : Pos} {kt k2 : Nat} {pt2 : Pos} (hc : X.calm = true) (hN : X.N.Nodup) (ha : DV X rc a ta fa) (hb : DV X rc b tb fb) (hij : i ≠ j) (hi : X.N[i]? = some x := by rfl) (hj : X.N[j]? = some y := by rfl)
    (hx : Loc X.env.scope x := by first | exact Or.inl rfl | exact Or.inr rfl) (hy : Loc X.env.scope y := by first | exact Or.inl rfl | exact Or.inr rfl)
    (hfx : X.fn x = true ∨ X.env.scope.names.lookup x = some .local := by first | exact .inl rfl | exact .inr rfl | assumption) (hfy : X.fn y = true ∨ X.env.scope.names.lookup y = some .local := by first | exact .inl rfl | exact .inr rfl | assumption)
    (h1 : starEach [a, b] X.env = (false, eval a X.env) :: starEach [b] X.env := by rfl) (h2 : starEach [b] X.env = (false, eval b X.env) :: starEach [] X.env := by rfl)
    (hs : swapsWithSole [.Tuple [.Name x px, .Name y py] kt pt] (.Tuple [a, b] k2 pt2) pos.line X.env = pure false := by rfl) (hw : swappedStores [.Tuple [.Name x px, .Name y py] kt pt] (.Tuple [a, b] k2 pt2) X.env = pure none := by rfl)
    (h3 : (assignEach [.Tuple [.Name x px, .Name y py] kt pt] X.env).map (·.2) = [assign (.Tuple [.Name x px, .Name y py] kt pt) X.env] := by rfl)
    (h4 : (assignEach [.Name x px, .Name y py] X.env).map (·.2) = assign (.Name x px) X.env :: (assignEach [.Name y py] X.env).map (·.2) := by rfl) (h5 : (assignEach [.Name y py] X.env).map (·.2) = assign (.Name y py) X.env :: (assignEach [] X.env).map (·.2) := by rfl)
    (hn : (assignEach [.Name x px, .Name y py] X.env).length = 2 := by rfl) (hst : (assignEach [.Name x px, .Name y py] X.env).findIdx? (·.1) = none := by rfl) :
    DS X rc (.Assign [.Tuple [.Name x px, .Name y py] kt pt] (.Tuple [a, b] k2 pt2) pos) (tAsg (tTup (tCons ta (tCons tb tNil))) (gTup X.K 2 (gCons (gName i) (gCons (gName j) gNil)))) (gPar i j fa fb) :=
  ⟨ps_asg (pe_tup (pa_cons ha.pe (pa_cons hb.pe pa_nil h2) h1)) (pg_tup hc (pgs_cons (pg_name hN hi hx hfx) (pgs_cons (pg_name hN hj hy hfy) pgs_nil h5) h4) hn hst) hs hw h3, fun Hs0 H0 σ Hs H ρ R oc hf E P => by
  unfold gPar at hf
  cases e1 : fa ρ with
  | none => rw [e1] at hf; cases hf
  | some pr =>
    obtain ⟨xa, r1⟩ := pr
    rw [e1] at hf
    simp only at hf
    cases e2 : fb (ρ.wr r1) with
    | none => rw [e2] at hf; cases hf
    | some pr =>
      obtain ⟨xb, r2⟩ := pr
      rw [e2] at hf
      cases hf
      refine ha.se Hs0 H0 σ Hs H ρ R xa r1 e1 _ fun v Hs1 H1 ex1 w1 p1 => ?_
      have R1 := R.ext' ex1 w1
      refine hb.se Hs0 H0 σ Hs1 H1 _ R1 xb r2 e2 _ fun u Hs2 H2 ex2 w2 p2 => ?_
      refine ⟨by show 2 ≤ sizeLine; decide, fun q0 hq0 => ?_⟩
      have ex3 : Ext rc Hs2 H2 Hs2 (upd H2 q0 (.tup [v, u])) := .newP ex2.s hq0
      have ey2 := ex2.trans ex3
      have z2 := row_new (o := .tup [v, u]) hq0 w2
      have y2 : FrOk X.K H1 Hs2 (upd H2 q0 (.tup [v, u])) u xb := p2.ext (fun p z => R1.ext.d p (R1.rn p z).1) ex3
      refine ⟨q0, [v, u], rfl, .inl (.inl upd_same), rfl, v, [u], rfl, u, [], rfl, rfl, ?_⟩
      generalize upd H2 q0 (.tup [v, u]) = Hy at *
      have nrow : ∀ p, rc.ad = some p → H p ≠ none := fun p z => R.ext.d p (R.rn p z).1
      have p1' := p1.ext nrow ey2
      have R2 : Rel X.K rc Hs0 H0 σ Hs2 Hy (ρ.wr r2) := R1.ext' ey2 z2
      have RA := R2.setV (i := i) (fun p z => R.fresh0 z) p1' (fun ho k hk hik => by
        cases xa with
        | o ds =>
          obtain ⟨q, ws, rfl, hq, _⟩ := p1'
          exact R.notOwn hq k hk
        | _ => exact ho.elim)
      refine P _ Hs2 Hy (ex1.g.trans ey2.g) (RA.setV (i := j) (fun p z => R1.fresh0 z) y2 fun ho k hk hjk => ?_)
      cases xb with
      | o ds =>
        obtain ⟨q, ws, rfl, hq, _⟩ := y2
        by_cases hik : i = k
        · subst hik
          by_cases hil : i < σ.length
          · rw [List.getElem?_set_self hil]
            intro z
            cases z
            cases xa with
            | o da =>
              obtain ⟨q2, ws2, e3, h3, h4, _⟩ := p1
              cases e3
              rw [hq] at h4; cases h4
            | s da =>
              rw [Ev.get_set] at hk
              by_cases hc : i = i ∧ i < (ρ.wr r2).sl.length
              · rw [if_pos hc] at hk; exact hk.elim
              · exact hc ⟨rfl, by rw [← R2.len]; exact hil⟩
            | _ => exact p1.elim
          · rw [List.getElem?_eq_none (by rw [List.length_set]; omega)]; simp
        · rw [List.getElem?_set_ne hik]
          have hk' : ((ρ.wr r2).get k).own := by
            rw [Ev.get_set] at hk
            by_cases hc : i = k ∧ i < (ρ.wr r2).sl.length
            · exact absurd hc.1 hik
            · rw [if_neg hc] at hk; exact hk
          exact R1.notOwn hq k hk'
      | _ => exact ho.elim⟩
end
end DL

namespace DL
open PySem PySem.Spec PyProof.Rows L2
/-! ### an object's fields, read -/
section
variable {X : Cx} {rc : Rc} {x f : Str} {i : Nat} {pos p : Pos} {m : Bool} {e : Expr} {es : List Expr} {te : TE} {g : MM D} {t : TA}
def mFldB (i : Nat) (f : Str) : MM D := fun ρ => match ρ.get i with
  | .ob _ fs => (match fs.lookup f with
    | some (_, d) => some (d, ρ.row)
    | none => none)
  | _ => none
def mFldS (i : Nat) (f : Str) : MM D := fun ρ => match ρ.get i with
  | .ob _ fs => (match fs.lookup f with
    | some (true, d) => some (d, ρ.row)
    | _ => none)
  | _ => none
theorem db_fld (K : PySem.W.Frag) (i : Nat) (hN : X.N[i]? = some x := by rfl) (hv : Vis X.env.scope x := by first | exact Or.inl rfl | exact Or.inr (Or.inl rfl) | exact Or.inr (Or.inr rfl)) (hd : (x == ("__debug__" : Str)) = false := by decide)
    (hcd : (x == ("__classdict__" : Str)) = false := by decide) (hb : attributeBase (.Name x p) f X.env (eval (.Name x p) X.env) = eval (.Name x p) X.env := by rfl) (hK : X.K = K := by rfl) :
    DB X rc m (.Attribute (.Name x p) f pos) (tFld K (tVar i) f) (mFldB i f) := by
  subst hK
  exact ⟨pe_fld (pe_var hN hv hd hcd) hb, fun Hs0 H0 σ Hs H ρ R d r hf Q q => by
    unfold mFldB at hf
    have h := R.sl i
    cases e : ρ.get i with
    | ob a fs =>
      rw [e] at hf h
      simp only at hf
      obtain ⟨C, dx, fvs, h1, h2, h3, h4, h5⟩ := h
      cases e2 : fs.lookup f with
      | none => rw [e2] at hf; cases hf
      | some kd =>
        obtain ⟨k, d'⟩ := kd
        rw [e2] at hf
        cases hf
        obtain ⟨v, g1, g2, g3, g4, g5⟩ := h5 f k d e2
        exact ⟨_, h1, a, C, dx, fvs, v, rfl, R.ext.k _ _ h2 h3, h4, g2, g1, q v Hs H (.refl R.same) R.row (bor_bst R.ext.k g3 g4)⟩
    | _ => rw [e] at hf; cases hf⟩
theorem de_fld (K : PySem.W.Frag) (i : Nat) (hN : X.N[i]? = some x := by rfl) (hv : Vis X.env.scope x := by first | exact Or.inl rfl | exact Or.inr (Or.inl rfl) | exact Or.inr (Or.inr rfl)) (hd : (x == ("__debug__" : Str)) = false := by decide)
    (hcd : (x == ("__classdict__" : Str)) = false := by decide) (hb : attributeBase (.Name x p) f X.env (eval (.Name x p) X.env) = eval (.Name x p) X.env := by rfl) (hK : X.K = K := by rfl) :
    DE X rc (.Attribute (.Name x p) f pos) (tFld K (tVar i) f) (mFldS i f) := by
  subst hK
  exact ⟨pe_fld (pe_var hN hv hd hcd) hb, fun Hs0 H0 σ Hs H ρ R d r hf Q q => by
    unfold mFldS at hf
    have h := R.sl i
    cases e : ρ.get i with
    | ob a fs =>
      rw [e] at hf h
      simp only at hf
      obtain ⟨C, dx, fvs, h1, h2, h3, h4, h5⟩ := h
      cases e2 : fs.lookup f with
      | none => rw [e2] at hf; cases hf
      | some kd =>
        obtain ⟨k, d'⟩ := kd
        rw [e2] at hf
        cases k with
        | false => cases hf
        | true =>
          cases hf
          obtain ⟨v, g1, g2, g3, g4, g5⟩ := h5 f true d e2
          exact ⟨_, h1, a, C, dx, fvs, v, rfl, R.ext.k _ _ h2 h3, h4, g2, g1, q v Hs H (.refl R.same) R.row (g5 rfl)⟩
    | _ => rw [e] at hf; cases hf⟩
/-- any borrowed thing as an argument (no row) -/
def mConsB (s : MM D) (fl : MM (List Sl)) : MM (List Sl) := mBind s fun a => mBind fl fun l => mRet (.b a :: l)
theorem dr_b {fl : MM (List Sl)} (ha : DB X none m e te g) (hl : DR X none es t fl) (hs : starEach (e :: es) X.env = (false, eval e X.env) :: starEach es X.env := by rfl) : DR X none (e :: es) (tCons te t) (mConsB g fl) := ⟨pa_cons ha.pe hl.pe hs, fun Hs0 H0 σ Hs H ρ R d w hf Q q => by
  obtain ⟨a, r1, h1, h2⟩ := mBind_some hf
  obtain ⟨l, r2, h3, h4⟩ := mBind_some h2
  cases h4
  refine ha.se Hs0 H0 σ Hs H ρ R a r1 h1 _ fun v Hs1 H1 ex1 w1 p1 => ?_
  refine hl.se Hs0 H0 σ Hs1 H1 _ (R.ext' ex1 w1) l _ h3 _ fun vs Hs2 H2 ex2 w2 p2 => ?_
  exact q _ Hs2 H2 (ex1.trans ex2) w2 (.cons ⟨fun p _ z => (by cases z), (p1.ext ex2).b⟩ p2)⟩
/-! ### a def that gives a new list -/
def spGN (K : PySem.W.Frag) (F : List Sl → Row → Option (List D × Row)) : Sp := fun vs H Q _ => ∃ rc Hs as w d w', Same Hs H ∧ RowAt K rc H w ∧ (∀ a, Rc.ad rc = some a → H a ≠ none ∧ Hs a = none) ∧ ArgsOk K rc Hs H vs as ∧ F as w = some (d, w') ∧
  ∀ v Hs' H', Ext rc Hs H Hs' H' → RowAt K rc H' w' → (∃ p vs, v = .ref p ∧ H p = none ∧ H' p = some (.lst vs) ∧ Hs' p = none ∧ RpAll K Hs' vs d) → Q v H'
def runNew (f : MM (List D)) (n N : Nat) (as : List Sl) (w : Row) : Option (List D × Row) := if as.length = n then f ⟨w, as ++ List.replicate (N - n) .no⟩ else none
def mCallN (F : List Sl → Row → Option (List D × Row)) (fl : MM (List Sl)) : MM (List D) := mBind fl fun l => fun ρ => F l ρ.row
theorem nf_callN (K : PySem.W.Frag) {k : Nat} {F : List Sl → Row → Option (List D × Row)} {fl : MM (List Sl)} {dvs : List V} {dds : List Sl} (h : Has X.prog X.w X.K X.mg X.base x k dvs (spGN K F)) (hd : ∀ Hs H, ArgsOk K rc Hs H dvs dds) (hr : Room k X.A) (ha : DR X rc (e :: es) t fl) (hg : Gl X x := by rfl) (hdb : (x == ("__debug__" : Str)) = false := by decide)
    (he : starEach (e :: es) X.env = (false, eval e X.env) :: starEach es X.env := by rfl) (hpl : (backTo pos (starEach es X.env)).any (·.1) = false := by rfl) (hK : X.K = K := by rfl) :
    PE X (.Call (.Name x p) (e :: es) [] pos) (tCall (spGN K F) dvs E0 t) ∧ NewF K rc (tCall (spGN K F) dvs E0 t) (mCallN (fun l => F (l ++ dds)) fl) := by
  subst hK
  obtain ⟨f, fd, ps, ds, hF, hm, hk, hb, hv⟩ := h.ex
  refine ⟨pe_call hF hr hg hm hk hb hv pass0 ha.pe hdb he hpl, fun Hs0 H0 σ Hs H ρ R d w hf Q q => ?_⟩
  obtain ⟨l, r1, h1, h2⟩ := mBind_some hf
  refine ha.se Hs0 H0 σ Hs H ρ R l _ h1 _ fun vs Hs1 H1 ex1 w1 p1 => ?_
  have R1 := R.ext' ex1 w1
  have app : ∀ {vs : List V} {as : List Sl}, ArgsOk X.K rc Hs1 H1 vs as → ArgsOk X.K rc Hs1 H1 (vs ++ dvs) (as ++ dds) := by
    intro vs as h
    induction h with
    | nil => exact hd Hs1 H1
    | cons a _ ih => exact .cons a ih
  refine ⟨rc, Hs1, l ++ dds, r1, d, w, ex1.s, w1, fun a ha' => ⟨R1.ext.d a (R1.rn a ha').1, R1.ext.p a (R1.rn a ha').1 (R1.rn a ha').2⟩, app p1, h2, fun v Hs' H' ex2 w2 ⟨p, ws, ev, hn, hp, hs, hr⟩ => q v Hs' H' (ex1.trans ex2) w2 ⟨p, ws, ev, ?_, hp, hs, hr⟩⟩
  cases z : H p with
  | none => rfl
  | some u => exact absurd hn (ex1.d p (by rw [z]; simp))
end
section
variable {P : Program} {w : World} {K : PySem.W.Frag} {mg : Str → Option Value} {base : Heap} {qual x : Str} {params : Arguments} {body : List Stmt} {scope : Scope} {dvs : List V} {kws : List (Str × V)} {f : Addr} {fd : FuncData} {N ps : List Str} {k : Nat} {g : MM (List D)}
theorem def_okN (F : FunD K x qual params body scope dvs kws f fd) (S : FnScope N ps scope)
    (hb : ∀ (cdv : Value) (A : Around) (outer : List Env) (s : Shared) (H : Hp) (E : XK), Room k (A.deeper (envOfC qual scope s.heap.objs.size f cdv)) → ∀ rc, ∃ te, PSs (cxOf CX0 P w K mg base N qual scope f cdv A outer s H E).nox body (tRet te) ∧ NewF K rc te g) :
    FnOk P w K mg base CX0 (k + 1) f fd ps (spGN K (runNew g ps.length N.length)) := by
  refine F.ok S (fun vs H Q E h => ?_) (fun cdv A outer s H vs Q E hr h => ?_)
  · obtain ⟨rc, Hs, as, w, d, w', h1, h2, h3, h4, h5, h6⟩ := h
    unfold runNew at h5
    by_cases hl : as.length = ps.length
    · rw [h4.length]; exact hl
    · rw [if_neg hl] at h5; cases h5
  · obtain ⟨rc, Hs, as, w0, d, w', h1, h2, h3, h4, h5, h6⟩ := h
    obtain ⟨te, ht, hn⟩ := hb cdv A outer s H E hr rc
    refine ⟨tRet te, PSs.nox ht, ?_⟩
    unfold runNew at h5
    by_cases hl : as.length = ps.length
    · rw [if_pos hl] at h5
      have R : Rel K rc Hs H (start N vs) Hs H ⟨w0, as ++ List.replicate (N.length - ps.length) .no⟩ := rel_start h1 h2 h3 h4 hl
      exact hn Hs H _ Hs H _ R _ _ h5 _ fun v Hs' H' ex w' p => h6 v Hs' H' ex w' p
    · rw [if_neg hl] at h5; cases h5
end
/-! ### an object that changes -/
inductive Fd where
  | s (d : D)
  | o (ds : List D)
def Fd.isS : Fd → Bool
  | .s _ => true
  | .o _ => false
def Fd.d : Fd → D
  | .s d => d
  | .o ds => .list ds
abbrev Ob := List (Str × Fd)
def obF : Ob → List (Str × Bool × D)
  | [] => []
  | (f, x) :: r => (f, x.isS, x.d) :: obF r
def putO (f : Str) (x : Fd) : Ob → Ob
  | [] => [(f, x)]
  | (g, y) :: r => if g = f then (g, x) :: r else (g, y) :: putO f x r
theorem lookup_obF (f : Str) : ∀ ob : Ob, (obF ob).lookup f = (ob.lookup f).map fun x => (x.isS, x.d)
  | [] => rfl
  | (g, x) :: r => by
    show List.lookup f ((g, x.isS, x.d) :: obF r) = _
    by_cases h : (f == g) = true
    · simp only [List.lookup, h]
      rfl
    · have h : (f == g) = false := by simpa using h
      simp only [List.lookup, h]
      exact lookup_obF f r
theorem lookup_putO (f g : Str) (v : Fd) : ∀ fs : Ob, (putO f v fs).lookup g = if g = f then some v else fs.lookup g
  | [] => by
    show List.lookup g [(f, v)] = _
    by_cases h : g = f
    · have hb : (g == f) = true := beq_iff_eq.mpr h
      simp only [List.lookup, hb, if_pos h]
    · have hb : (g == f) = false := beq_eq_false_iff_ne.mpr h
      simp only [List.lookup, hb, if_neg h]
  | (k, x) :: r => by
    have ih := lookup_putO f g v r
    rw [show putO f v ((k, x) :: r) = (if k = f then (k, v) :: r else (k, x) :: putO f v r) from rfl]
    by_cases hk : k = f
    · rw [if_pos hk]
      by_cases h : g = k
      · have hb : (g == k) = true := beq_iff_eq.mpr h
        simp only [List.lookup, hb, if_pos (h.trans hk)]
      · have hb : (g == k) = false := beq_eq_false_iff_ne.mpr h
        simp only [List.lookup, hb, if_neg (fun e : g = f => h (e.trans hk.symm))]
    · rw [if_neg hk]
      by_cases h : g = k
      · have hb : (g == k) = true := beq_iff_eq.mpr h
        simp only [List.lookup, hb, if_neg (fun e : g = f => hk (h.symm.trans e))]
      · have hb : (g == k) = false := beq_eq_false_iff_ne.mpr h
        simp only [List.lookup, hb]
        exact ih
def putK (f : Str) : List Str → List Str
  | [] => [f]
  | g :: r => if g = f then g :: r else g :: putK f r
theorem keysF (f : Str) (v : V) : ∀ fs : List (Str × V), (putF f v fs).map (·.1) = putK f (fs.map (·.1))
  | [] => rfl
  | (g, x) :: r => by
    show (if g = f then (g, v) :: r else (g, x) :: putF f v r).map (·.1) = if g = f then g :: r.map (·.1) else g :: putK f (r.map (·.1))
    by_cases h : g = f
    · rw [if_pos h, if_pos h]; rfl
    · rw [if_neg h, if_neg h]
      show g :: (putF f v r).map (·.1) = _
      rw [keysF f v r]
theorem keysO (f : Str) (v : Fd) : ∀ fs : Ob, (putO f v fs).map (·.1) = putK f (fs.map (·.1))
  | [] => rfl
  | (g, x) :: r => by
    show (if g = f then (g, v) :: r else (g, x) :: putO f v r).map (·.1) = if g = f then g :: r.map (·.1) else g :: putK f (r.map (·.1))
    by_cases h : g = f
    · rw [if_pos h, if_pos h]; rfl
    · rw [if_neg h, if_neg h]
      show g :: (putO f v r).map (·.1) = _
      rw [keysO f v r]
theorem putK_mem {f : Str} : ∀ {l : List Str}, f ∈ l → putK f l = l
  | [], h => by cases h
  | g :: r, h => by
    show (if g = f then g :: r else g :: putK f r) = _
    by_cases e : g = f
    · rw [if_pos e]
    · rw [if_neg e, putK_mem (by cases h with | head => exact absurd rfl e | tail _ h => exact h)]
theorem mem_of_lookup {f : Str} {x : Fd} : ∀ {ob : Ob}, ob.lookup f = some x → f ∈ ob.map (·.1)
  | [], h => by cases h
  | (g, y) :: r, h => by
    by_cases e : (f == g) = true
    · rw [beq_iff_eq.mp e]; exact List.mem_cons_self ..
    · have e : (f == g) = false := by simpa using e
      simp only [List.lookup, e] at h
      exact List.mem_cons_of_mem _ (mem_of_lookup h)
def FdOk (K : PySem.W.Frag) (Hs H : Hp) (v : V) : Fd → Prop
  | .s d => Rp K Hs v d
  | .o ds => ∃ p vs, v = .ref p ∧ H p = some (.lst vs) ∧ Hs p = none ∧ RpAll K Hs vs ds
structure ObIn (K : PySem.W.Frag) (C a dx : Addr) (fvs : List (Str × V)) (Hs H : Hp) (ob : Ob) : Prop where
  at_ : H a = some (.ins C dx fvs)
  hs : Hs a = none
  keys : fvs.map (·.1) = ob.map (·.1)
  no : ∀ f, ob.lookup f = none → fvs.lookup f = none
  fd : ∀ f x, ob.lookup f = some x → NoAttr K C f ∧ ∃ v, fvs.lookup f = some v ∧ FdOk K Hs H v x
  dis : ∀ f g ds es v, f ≠ g → ob.lookup f = some (.o ds) → ob.lookup g = some (.o es) → fvs.lookup f = some v → fvs.lookup g ≠ some v
  cls : Cls K C
def ObAt (K : PySem.W.Frag) (C a : Addr) (Hs H : Hp) (ob : Ob) : Prop := ∃ dx fvs, ObIn K C a dx fvs Hs H ob
/-- the object and its own lists -/
def ExO (H : Hp) (a : Addr) (ob : Ob) (b : Addr) : Prop := b = a ∨ ∃ C dx fvs f ds, H a = some (.ins C dx fvs) ∧ ob.lookup f = some (.o ds) ∧ fvs.lookup f = some (.ref b)
structure HEnd (K : PySem.W.Frag) (E0 : Addr → Prop) (C a : Addr) (Hs0 H0 Hs H : Hp) (ob : Ob) : Prop where
  g : Same Hs0 Hs
  s : Same Hs H
  k : ∀ b o, ¬ E0 b → H0 b = some o → H b = some o
  d : ∀ b, H0 b ≠ none → H b ≠ none
  p : ∀ b, H0 b ≠ none → Hs0 b = none → Hs b = none
  at_ : ObAt K C a Hs H ob
  new : ∀ b, ExO H a ob b → E0 b ∨ H0 b = none
def SlC (K : PySem.W.Frag) (Hs : Hp) (sv : Option (Option V)) : Sl → Prop
  | .no => True
  | .s d => ∃ v, sv = some (some v) ∧ Rp K Hs v d
  | _ => False
structure HRel (K : PySem.W.Frag) (E0 : Addr → Prop) (C a : Addr) (i0 : Nat) (Hs0 H0 : Hp) (σ : L2.St) (Hs H : Hp) (sl : List Sl) (ob : Ob) : Prop where
  e : HEnd K E0 C a Hs0 H0 Hs H ob
  len : σ.length = sl.length
  i : σ[i0]? = some (some (.ref a))
  sl : ∀ i, i ≠ i0 → SlC K Hs σ[i]? (sl.getD i .no)
def oRho (a : Addr) (i0 : Nat) (sl : List Sl) (ob : Ob) : Ev := ⟨([], 0, 0, 0), sl.set i0 (.ob a (obF ob))⟩
section
variable {K : PySem.W.Frag} {E0 : Addr → Prop} {C a : Addr} {i0 : Nat} {Hs0 H0 Hs H Hs' H' : Hp} {σ : L2.St} {sl : List Sl} {ob : Ob}
theorem HRel.rel (h : HRel K E0 C a i0 Hs0 H0 σ Hs H sl ob) : Rel K none Hs H σ Hs H (oRho a i0 sl ob) := by
  have hi : i0 < sl.length := by rw [← h.len]; exact (List.getElem?_eq_some_iff.mp h.i).1
  have get : ∀ i, (oRho a i0 sl ob).get i = if i0 = i then .ob a (obF ob) else sl.getD i .no := fun i => by
    unfold oRho Ev.get
    simp only [List.getD_eq_getElem?_getD, List.getElem?_set]
    by_cases z : i0 = i
    · subst z; simp [hi]
    · simp [z]
  refine ⟨.refl h.e.s, h.e.s, trivial, fun a z => (by cases z), fun a sc ns z => (by cases z), by simp [oRho, h.len], fun i => ?_, fun i j p hij hi' hj => ?_⟩
  · rw [get]
    by_cases z : i0 = i
    · rw [if_pos z]
      subst z
      obtain ⟨dx, fvs, O⟩ := h.e.at_
      refine ⟨C, dx, fvs, h.i, (fun q => by cases q), O.at_, O.cls, fun f k d hf => ?_⟩
      rw [lookup_obF] at hf
      cases e : ob.lookup f with
      | none => rw [e] at hf; cases hf
      | some x =>
        rw [e] at hf
        cases hf
        obtain ⟨na, v, hv, hx⟩ := O.fd f x e
        refine ⟨v, hv, na, fun p _ q => (by cases q), ?_, fun hk => ?_⟩
        · cases x with
          | s d => exact .sh hx
          | o ds =>
            obtain ⟨p, vs, rfl, h1, h2, h3⟩ := hx
            exact .lst h1 h3
        · cases x with
          | s d => exact hx
          | o ds => cases hk
    · rw [if_neg z]
      have q := h.sl i (fun e => z e.symm)
      cases e : sl.getD i .no with
      | no => trivial
      | s d => rw [e] at q; exact q
      | _ => rw [e] at q; exact q.elim
  · rw [get] at hi'
    by_cases z : i0 = i
    · rw [if_pos z] at hi'; exact hi'.elim
    · rw [if_neg z] at hi'
      have q := h.sl i (fun e => z e.symm)
      cases e : sl.getD i .no with
      | o ds => rw [e] at q; exact q.elim
      | _ => rw [e] at hi'; exact hi'.elim
theorem FdOk.ext {v : V} {x : Fd} (h : FdOk K Hs H v x) (e : Ext none Hs H Hs' H') : FdOk K Hs' H' v x := by
  cases x with
  | s d => exact Rp.mono e.g (show Rp K Hs v d from h)
  | o ds =>
    obtain ⟨p, vs, h1, h2, h3, h4⟩ := h
    exact ⟨p, vs, h1, e.same_none _ _ h2, e.p _ (by rw [h2]; simp) h3, h4.mono e.g⟩
theorem HEnd.ext (h : HEnd K E0 C a Hs0 H0 Hs H ob) (e : Ext none Hs H Hs' H') : HEnd K E0 C a Hs0 H0 Hs' H' ob := by
  obtain ⟨dx, fvs, O⟩ := h.at_
  refine ⟨h.g.trans e.g, e.s, fun b o n z => e.same_none _ _ (h.k b o n z), fun b z => e.d b (h.d b z), fun b z q => e.p b (h.d b z) (h.p b z q), ⟨dx, fvs, e.same_none _ _ O.at_, e.p _ (by rw [O.at_]; simp) O.hs, O.keys, O.no, fun f x hf => ?_, O.dis, O.cls⟩, fun b hb => ?_⟩
  · obtain ⟨na, v, hv, hx⟩ := O.fd f x hf
    exact ⟨na, v, hv, hx.ext e⟩
  · refine h.new b ?_
    rcases hb with rfl | ⟨C', dx', fvs', f, ds, h1, h2, h3⟩
    · exact .inl rfl
    · rw [e.same_none _ _ O.at_] at h1
      cases h1
      exact .inr ⟨_, _, _, f, ds, O.at_, h2, h3⟩
def okSl : Sl → Bool
  | .no => true
  | .s _ => true
  | _ => false
def obSl (a : Addr) : Sl → Bool
  | .ob b _ => b == a
  | _ => false
def clean (a : Addr) (i0 : Nat) (sl : List Sl) : Bool := obSl a (sl.getD i0 .no) && (sl.set i0 .no).all okSl
theorem HRel.of_rel (h : HEnd K E0 C a Hs0 H0 Hs H ob) {σ' : L2.St} {ρ' : Ev} (R : Rel K none Hs H σ' Hs' H' ρ') (hc : clean a i0 ρ'.sl = true) : HRel K E0 C a i0 Hs0 H0 σ' Hs' H' ρ'.sl ob := by
  unfold clean at hc
  rw [Bool.and_eq_true] at hc
  obtain ⟨h1, h2⟩ := hc
  refine ⟨h.ext R.ext, R.len, ?_, fun i hi => ?_⟩
  · have q := R.sl i0
    unfold Ev.get at q
    cases e : ρ'.sl.getD i0 .no with
    | ob b fs =>
      rw [e] at q h1
      have e2 : b = a := by simpa [obSl] using h1
      subst e2
      obtain ⟨C', dx, fvs, q1, _⟩ := q
      exact q1
    | _ => rw [e] at h1; cases h1
  · have q := R.sl i
    unfold Ev.get at q
    have hk : okSl (ρ'.sl.getD i .no) = true := by
      rw [List.getD_eq_getElem?_getD]
      cases e : ρ'.sl[i]? with
      | none => rfl
      | some x =>
        have : (ρ'.sl.set i0 .no)[i]? = some x := by rw [List.getElem?_set_ne (fun z => hi z.symm)]; exact e
        exact List.all_eq_true.mp h2 x (List.mem_of_getElem? this)
    cases e : ρ'.sl.getD i .no with
    | no => trivial
    | s d => rw [e] at q; exact q
    | _ => rw [e] at hk; cases hk
theorem HRel.ext (h : HRel K E0 C a i0 Hs0 H0 σ Hs H sl ob) (e : Ext none Hs H Hs' H') : HRel K E0 C a i0 Hs0 H0 σ Hs' H' sl ob := by
  refine ⟨h.e.ext e, h.len, h.i, fun i hi => ?_⟩
  have q := h.sl i hi
  cases z : sl.getD i .no with
  | no => trivial
  | s d => rw [z] at q; obtain ⟨v, q1, q2⟩ := q; exact ⟨v, q1, q2.mono e.g⟩
  | _ => rw [z] at q; exact q.elim
end
/-! ### statements over it -/
inductive HOc where
  | nx (sl : List Sl) (ob : Ob)
  | ret (d : D) (ob : Ob)
abbrev HS := Addr → List Sl → Ob → Option HOc
def HPost (K : PySem.W.Frag) (E0 : Addr → Prop) (C a : Addr) (i0 : Nat) (Hs0 H0 : Hp) (E : Ends) : HOc → Prop
  | .nx sl ob => ∀ σ' Hs' H', HRel K E0 C a i0 Hs0 H0 σ' Hs' H' sl ob → E.nx σ' H'
  | .ret d ob => ∀ v Hs' H', HEnd K E0 C a Hs0 H0 Hs' H' ob → Rp K Hs' v d → E.rt v H'
def SemH (K : PySem.W.Frag) (C : Addr) (i0 : Nat) (t : TS) (g : HS) : Prop :=
  ∀ E0 a Hs0 H0 σ Hs H sl ob, HRel K E0 C a i0 Hs0 H0 σ Hs H sl ob → ∀ oc, g a sl ob = some oc → ∀ E : Ends, HPost K E0 C a i0 Hs0 H0 E oc → t E σ H
def hP (i0 : Nat) (g : MS) : HS := fun a sl ob => match g (oRho a i0 sl ob) with
  | some (.nx ρ) => if clean a i0 ρ.sl = true then some (.nx ρ.sl ob) else none
  | some (.ret d _) => some (.ret d ob)
  | _ => none
def hSeq (g g' : HS) : HS := fun a sl ob => match g a sl ob with
  | some (.nx sl' ob') => g' a sl' ob'
  | o => o
def hSkip : HS := fun _ sl ob => some (.nx sl ob)
def hIf (i0 : Nat) (ft : MM Bool) (g g' : HS) : HS := fun a sl ob => match ft (oRho a i0 sl ob) with
  | some (b, _) => if b = true then g a sl ob else g' a sl ob
  | none => none
def hWh (i0 : Nat) (ft : MM Bool) (body : HS) : Nat → HS
  | 0 => fun _ _ _ => none
  | n + 1 => fun a sl ob => match ft (oRho a i0 sl ob) with
    | some (b, _) => if b = true then (match body a sl ob with
        | some (.nx sl' ob') => hWh i0 ft body n a sl' ob'
        | o => o)
      else some (.nx sl ob)
    | none => none
def hFld (i0 : Nat) (f : Str) (m : MM D) : HS := fun a sl ob => match m (oRho a i0 sl ob) with
  | some (d, _) => if ob.length < 100 then some (.nx sl (putO f (.s d) ob)) else none
  | none => none
def hFldO (i0 : Nat) (f : Str) (m : MM (List D)) : HS := fun a sl ob => match m (oRho a i0 sl ob) with
  | some (d, _) => if ob.length < 100 then some (.nx sl (putO f (.o d) ob)) else none
  | none => none
def hApp (i0 : Nat) (f : Str) (m : MM D) : HS := fun a sl ob => match m (oRho a i0 sl ob) with
  | some (d, _) => (match ob.lookup f with
    | some (.o ds) => if ds.length < 1000000 then some (.nx sl (putO f (.o (ds ++ [d])) ob)) else none
    | _ => none)
  | none => none
def hPop (i0 : Nat) (f : Str) (m : MM D) : HS := fun a sl ob => match m (oRho a i0 sl ob) with
  | some (.int k, _) => (match ob.lookup f with
    | some (.o ds) => if 0 ≤ k ∧ k < (ds.length : Int) ∧ ds.length < 1000000 then some (.nx sl (putO f (.o (ds.eraseIdx k.toNat)) ob)) else none
    | _ => none)
  | _ => none
abbrev FM := Addr → Ob → List D → Option (D × Ob)
def hCall (i0 j : Nat) (m : Str) (F : FM) (fl : MM (List D)) : HS := fun a sl ob => match fl (oRho a i0 sl ob) with
  | some (ds, _) => if ob.lookup m = none then (match F a ob ds with
    | some (d, ob') => some (.nx (sl.set j (.s d)) ob')
    | none => none) else none
  | none => none
def spM (K : PySem.W.Frag) (C : Addr) (F : FM) : Sp := fun vs H Q _ => ∃ Hs a ob ws ds d ob', vs = .ref a :: ws ∧ Same Hs H ∧ ObAt K C a Hs H ob ∧ RpAll K Hs ws ds ∧ F a ob ds = some (d, ob') ∧ ∀ v Hs' H', HEnd K (ExO H a ob) C a Hs H Hs' H' ob' → Rp K Hs' v d → Q v H'
end DL

namespace DL
open PySem PySem.Spec PyProof.Rows L2
section
variable {K : PySem.W.Frag} {E0 : Addr → Prop} {C a : Addr} {i0 : Nat} {Hs0 H0 Hs H Hs' H' : Hp} {σ : L2.St} {sl : List Sl} {ob : Ob} {t u : TS} {g g' : HS} {te : TE} {f : Str}
theorem sh_pure {g : MS} (h : SemS K none t g) : SemH K C i0 t (hP i0 g) := fun E0 a Hs0 H0 σ Hs H sl ob R oc hf E P => by
  unfold hP at hf
  cases e : g (oRho a i0 sl ob) with
  | none => rw [e] at hf; cases hf
  | some o =>
    rw [e] at hf
    cases o with
    | nx ρ =>
      simp only at hf
      by_cases hc : clean a i0 ρ.sl = true
      · rw [if_pos hc] at hf
        cases hf
        exact h Hs H σ Hs H _ R.rel _ e E fun σ' Hs' H' _ R' => P σ' Hs' H' (HRel.of_rel R.e R' hc)
      · rw [if_neg hc] at hf; cases hf
    | ret d w =>
      cases hf
      exact h Hs H σ Hs H _ R.rel _ e E fun v Hs' H' ex _ p => P v Hs' H' (R.e.ext ex) p
    | bk ρ => cases hf
    | ct ρ => cases hf
theorem sh_skip : SemH K C i0 tNext hSkip := fun E0 a Hs0 H0 σ Hs H sl ob R oc hf E P => by
  cases hf
  exact P σ Hs H R
theorem sh_seq (h1 : SemH K C i0 t g) (h2 : SemH K C i0 u g') : SemH K C i0 (tSeq t u) (hSeq g g') := fun E0 a Hs0 H0 σ Hs H sl ob R oc hf E P => by
  unfold hSeq at hf
  cases e : g a sl ob with
  | none => rw [e] at hf; cases hf
  | some o =>
    rw [e] at hf
    cases o with
    | nx sl' ob' => exact h1 E0 a Hs0 H0 σ Hs H sl ob R _ e _ fun σ' Hs' H' R' => h2 E0 a Hs0 H0 σ' Hs' H' sl' ob' R' oc hf E P
    | ret d ob' => cases hf; exact h1 E0 a Hs0 H0 σ Hs H sl ob R _ e _ P
theorem sh_if {tt : TT} {ft : MM Bool} (hc : Sem K none PT_ tt ft) (h1 : SemH K C i0 t g) (h2 : SemH K C i0 u g') : SemH K C i0 (tIfS tt t u) (hIf i0 ft g g') := fun E0 a Hs0 H0 σ Hs H sl ob R oc hf E P => by
  unfold hIf at hf
  cases e : ft (oRho a i0 sl ob) with
  | none => rw [e] at hf; cases hf
  | some pr =>
    obtain ⟨b, r⟩ := pr
    rw [e] at hf
    refine hc Hs H σ Hs H _ R.rel b r e _ fun b' Hs1 H1 ex w1 pb => ?_
    cases pb
    have R1 := R.ext ex
    cases b with
    | true => rw [if_pos rfl]; exact h1 E0 a Hs0 H0 σ Hs1 H1 sl ob R1 oc hf E P
    | false => rw [if_neg Bool.false_ne_true]; exact h2 E0 a Hs0 H0 σ Hs1 H1 sl ob R1 oc hf E P
theorem sh_while {tt : TT} {ft : MM Bool} (n : Nat) (hc : Sem K none PT_ tt ft) (hb : SemH K C i0 t g) : SemH K C i0 (tWhile tt t) (hWh i0 ft g n) := fun E0 a Hs0 H0 σ Hs H sl ob R oc hf E P => by
  refine ⟨fun n σ2 H2 => ∃ Hs2 sl2 ob2, HRel K E0 C a i0 Hs0 H0 σ2 Hs2 H2 sl2 ob2 ∧ hWh i0 ft g n a sl2 ob2 = some oc, ⟨n, Hs, sl, ob, R, hf⟩, ?_⟩
  rintro n σ2 H2 ⟨Hs2, sl2, ob2, R2, hgo⟩
  cases n with
  | zero => cases hgo
  | succ n =>
    simp only [hWh] at hgo
    cases ht : ft (oRho a i0 sl2 ob2) with
    | none => rw [ht] at hgo; cases hgo
    | some pr =>
      obtain ⟨b, r⟩ := pr
      rw [ht] at hgo
      refine hc Hs2 H2 σ2 Hs2 H2 _ R2.rel b r ht _ fun b' Hs3 H3 ex w3 pb => ?_
      cases pb
      have R3 := R2.ext ex
      cases b with
      | true =>
        simp only [if_true] at hgo
        rw [if_pos rfl]
        refine ⟨fun σ4 H4 => ∃ Hs4 sl4 ob4, HRel K E0 C a i0 Hs0 H0 σ4 Hs4 H4 sl4 ob4 ∧ hWh i0 ft g n a sl4 ob4 = some oc, fun σ' H' q => ⟨n, Nat.lt_succ_self n, q⟩, ?_⟩
        cases hb1 : g a sl2 ob2 with
        | none => simp only [hb1] at hgo; cases hgo
        | some o =>
          refine hb E0 a Hs0 H0 σ2 Hs3 H3 sl2 ob2 R3 o hb1 _ ?_
          cases o with
          | nx sl4 ob4 =>
            simp only [hb1] at hgo
            exact fun σ' Hs' H' R4 => ⟨Hs', sl4, ob4, R4, hgo⟩
          | ret d ob4 =>
            simp only [hb1] at hgo
            cases hgo
            exact P
      | false =>
        simp only [Bool.false_eq_true, if_false] at hgo
        rw [if_neg Bool.false_ne_true]
        cases hgo
        exact P σ2 Hs3 H3 R3
/-! ### stores to a field -/
theorem HRel.store (R : HRel K E0 C a i0 Hs0 H0 σ Hs H sl ob) {dx : Addr} {fvs : List (Str × V)} (O : ObIn K C a dx fvs Hs H ob) (na : NoAttr K C f) {v : V} {x : Fd} (hx : FdOk K Hs H v x)
    (fresh : ∀ p, v = .ref p → (∃ ds, x = .o ds) → (E0 p ∨ H0 p = none) ∧ ∀ g es, g ≠ f → ob.lookup g = some (.o es) → fvs.lookup g ≠ some (.ref p)) :
    HRel K E0 C a i0 Hs0 H0 σ Hs (upd H a (.ins C dx (putF f v fvs))) sl (putO f x ob) := by
  have ha : ExO H a ob a := .inl rfl
  have nS : ∀ b o, Hs b = some o → b ≠ a := fun b o e z => by rw [z, O.hs] at e; cases e
  have n0 : ∀ b o, ¬ E0 b → H0 b = some o → b ≠ a := fun b o n e z => by
    subst z
    rcases R.e.new b ha with h | h
    · exact n h
    · rw [h] at e; cases e
  have nl : ∀ p vs, H p = some (.lst vs) → p ≠ a := fun p vs e z => by rw [z, O.at_] at e; cases e
  have fo : ∀ {v : V} {x : Fd}, FdOk K Hs H v x → FdOk K Hs (upd H a (.ins C dx (putF f v fvs))) v x := fun {v x} h => by
    cases x with
    | s d => exact h
    | o ds =>
      obtain ⟨p, vs, h1, h2, h3, h4⟩ := h
      exact ⟨p, vs, h1, by rw [upd_ne (nl p vs h2)]; exact h2, h3, h4⟩
  have fo' : ∀ {v' : V} {x : Fd}, FdOk K Hs H v' x → FdOk K Hs (upd H a (.ins C dx (putF f v fvs))) v' x := fun {v' x} h => by
    cases x with
    | s d => exact h
    | o ds =>
      obtain ⟨p, vs, h1, h2, h3, h4⟩ := h
      exact ⟨p, vs, h1, by rw [upd_ne (nl p vs h2)]; exact h2, h3, h4⟩
  refine ⟨⟨R.e.g, fun b o e => by rw [upd_ne (nS b o e)]; exact R.e.s b o e, fun b o n e => by rw [upd_ne (n0 b o n e)]; exact R.e.k b o n e, fun b e => ?_, R.e.p, ⟨dx, putF f v fvs, upd_same, O.hs, ?_, fun g hg => ?_, fun g y hg => ?_, fun g h ds es u ngh hg hh hv => ?_, O.cls⟩, fun b hb => ?_⟩, R.len, R.i, R.sl⟩
  · by_cases z : b = a
    · subst z; rw [upd_same]; simp
    · rw [upd_ne z]; exact R.e.d b e
  · rw [keysF, keysO, O.keys]
  · rw [lookup_putO] at hg
    rw [lookup_putF]
    by_cases z : g = f
    · rw [if_pos z] at hg; cases hg
    · rw [if_neg z] at hg ⊢; exact O.no g hg
  · rw [lookup_putO] at hg
    rw [lookup_putF]
    by_cases z : g = f
    · rw [if_pos z] at hg ⊢
      cases hg
      exact ⟨z ▸ na, v, rfl, fo' hx⟩
    · rw [if_neg z] at hg ⊢
      obtain ⟨n1, v1, h1, h2⟩ := O.fd g y hg
      exact ⟨n1, v1, h1, fo' h2⟩
  · rw [lookup_putO] at hg hh
    rw [lookup_putF] at hv ⊢
    by_cases z : g = f
    · rw [if_pos z] at hg hv
      cases hg
      cases hv
      have z2 : h ≠ f := fun e => ngh (z.trans e.symm)
      rw [if_neg z2] at hh ⊢
      obtain ⟨p, vs, e1, _⟩ := hx
      rw [e1]
      exact (fresh p e1 ⟨ds, rfl⟩).2 h es z2 hh
    · rw [if_neg z] at hg hv
      by_cases z2 : h = f
      · rw [if_pos z2] at hh ⊢
        cases hh
        obtain ⟨p, vs, e1, _⟩ := hx
        intro e
        rw [e1] at e
        cases e
        exact (fresh p e1 ⟨es, rfl⟩).2 g ds z hg hv
      · rw [if_neg z2] at hh ⊢
        exact O.dis g h ds es u ngh hg hh hv
  · rcases hb with rfl | ⟨C', dx', fvs', g, ds, h1, h2, h3⟩
    · exact R.e.new _ ha
    · rw [upd_same] at h1
      cases h1
      rw [lookup_putO] at h2
      rw [lookup_putF] at h3
      by_cases z : g = f
      · rw [if_pos z] at h2 h3
        cases h2
        cases h3
        exact (fresh b rfl ⟨ds, rfl⟩).1
      · rw [if_neg z] at h2 h3
        exact R.e.new b (.inr ⟨_, _, _, g, ds, O.at_, h2, h3⟩)
theorem keys_len {fvs : List (Str × V)} (h : fvs.map (·.1) = ob.map (·.1)) (h2 : ob.length < 100) : fvs.length < 1000 := by
  have := congrArg List.length h
  simp only [List.length_map] at this
  omega
theorem sh_fld {m : MM D} (na : NoAttr K C f) (he : Sem K none (PE_ K) te m) : SemH K C i0 (sFld K (tVar i0) te f) (hFld i0 f m) := fun E0 a Hs0 H0 σ Hs H sl ob R oc hf E P => by
  unfold hFld at hf
  cases e : m (oRho a i0 sl ob) with
  | none => rw [e] at hf; cases hf
  | some pr =>
    obtain ⟨d, r⟩ := pr
    rw [e] at hf
    simp only at hf
    by_cases hl : ob.length < 100
    · rw [if_pos hl] at hf
      cases hf
      refine he Hs H σ Hs H _ R.rel d r e _ fun v Hs1 H1 ex w1 p1 => ?_
      have R1 := R.ext ex
      obtain ⟨dx, fvs, O⟩ := R1.e.at_
      exact ⟨_, R1.i, a, C, dx, fvs, rfl, O.at_, O.cls, na, keys_len O.keys hl, P _ Hs1 _ (R1.store O na (x := .s d) p1 fun p _ ⟨ds, z⟩ => (by cases z))⟩
    · rw [if_neg hl] at hf; cases hf
theorem sh_fldO {m : MM (List D)} (na : NoAttr K C f) (he : NewF K none te m) : SemH K C i0 (sFld K (tVar i0) te f) (hFldO i0 f m) := fun E0 a Hs0 H0 σ Hs H sl ob R oc hf E P => by
  unfold hFldO at hf
  cases e : m (oRho a i0 sl ob) with
  | none => rw [e] at hf; cases hf
  | some pr =>
    obtain ⟨d, r⟩ := pr
    rw [e] at hf
    simp only at hf
    by_cases hl : ob.length < 100
    · rw [if_pos hl] at hf
      cases hf
      refine he Hs H σ Hs H _ R.rel d r e _ fun v Hs1 H1 ex w1 ⟨p, vs, ev, hn, hp, hs, hr⟩ => ?_
      subst ev
      have R1 := R.ext ex
      obtain ⟨dx0, fvs0, O0⟩ := R.e.at_
      obtain ⟨dx, fvs, O⟩ := R1.e.at_
      have ee := ex.same_none _ _ O0.at_
      rw [O.at_] at ee
      cases ee
      refine ⟨_, R1.i, a, C, _, _, rfl, O.at_, O.cls, na, keys_len O.keys hl, P _ Hs1 _ (R1.store O na (x := .o d) ⟨p, vs, rfl, hp, hs, hr⟩ fun q hq _ => ?_)⟩
      cases hq
      refine ⟨.inr ?_, fun g es ng hg hv => ?_⟩
      · cases z : H0 p with
        | none => rfl
        | some u => exact absurd hn (R.e.d p (by rw [z]; simp))
      · obtain ⟨_, v, h1, h2⟩ := O0.fd g _ hg
        rw [hv] at h1
        cases h1
        obtain ⟨q, ws, e1, e2, _⟩ := h2
        cases e1
        rw [hn] at e2
        cases e2
    · rw [if_neg hl] at hf; cases hf
/-- an own list is changed -/
theorem HRel.chg (R : HRel K E0 C a i0 Hs0 H0 σ Hs H sl ob) {dx : Addr} {fvs : List (Str × V)} (O : ObIn K C a dx fvs Hs H ob) {p : Addr} {ds es : List D} {ws : List V} (hf : ob.lookup f = some (.o ds)) (hv : fvs.lookup f = some (.ref p)) (hp : Hs p = none) (hr : RpAll K Hs ws es) {us : List V} (hl : H p = some (.lst us)) :
    HRel K E0 C a i0 Hs0 H0 σ Hs (upd H p (.lst ws)) sl (putO f (.o es) ob) := by
  have hx : ExO H a ob p := .inr ⟨_, _, _, f, ds, O.at_, hf, hv⟩
  have nS : ∀ b o, Hs b = some o → b ≠ p := fun b o e z => by rw [z, hp] at e; cases e
  have n0 : ∀ b o, ¬ E0 b → H0 b = some o → b ≠ p := fun b o n e z => by
    subst z
    rcases R.e.new b hx with h | h
    · exact n h
    · rw [h] at e; cases e
  have nap : a ≠ p := fun z => by rw [← z, O.at_] at hl; cases hl
  refine ⟨⟨R.e.g, fun b o e => by rw [upd_ne (nS b o e)]; exact R.e.s b o e, fun b o n e => by rw [upd_ne (n0 b o n e)]; exact R.e.k b o n e, fun b e => ?_, R.e.p, ⟨dx, fvs, by rw [upd_ne nap]; exact O.at_, O.hs, ?_, fun g hg => ?_, fun g y hg => ?_, fun g h d1 d2 u ngh hg hh hv => ?_, O.cls⟩, fun b hb => ?_⟩, R.len, R.i, R.sl⟩
  · by_cases z : b = p
    · subst z; rw [upd_same]; simp
    · rw [upd_ne z]; exact R.e.d b e
  · rw [keysO, putK_mem (mem_of_lookup hf), O.keys]
  · rw [lookup_putO] at hg
    by_cases z : g = f
    · rw [if_pos z] at hg; cases hg
    · rw [if_neg z] at hg; exact O.no g hg
  · rw [lookup_putO] at hg
    by_cases z : g = f
    · rw [if_pos z] at hg
      cases hg
      subst z
      obtain ⟨na, v, h1, _⟩ := O.fd g _ hf
      exact ⟨na, _, hv, p, ws, rfl, upd_same, hp, hr⟩
    · rw [if_neg z] at hg
      obtain ⟨na, v, h1, h2⟩ := O.fd g y hg
      refine ⟨na, v, h1, ?_⟩
      cases y with
      | s d => exact h2
      | o dd =>
        obtain ⟨q, vs, e1, e2, e3, e4⟩ := h2
        have nq : q ≠ p := fun zz => by
          rw [e1, zz] at h1
          exact O.dis g f dd ds _ z hg hf h1 hv
        exact ⟨q, vs, e1, by rw [upd_ne nq]; exact e2, e3, e4⟩
  · have back : ∀ {g : Str} {d1 : List D}, (putO f (.o es) ob).lookup g = some (.o d1) → ∃ d2, ob.lookup g = some (.o d2) := fun {g d1} h => by
      rw [lookup_putO] at h
      by_cases z : g = f
      · exact ⟨ds, by rw [z]; exact hf⟩
      · rw [if_neg z] at h; exact ⟨_, h⟩
    obtain ⟨d3, hg'⟩ := back hg
    obtain ⟨d4, hh'⟩ := back hh
    exact O.dis g h d3 d4 u ngh hg' hh' hv
  · refine R.e.new b ?_
    rcases hb with rfl | ⟨C', dx', fvs', g, d1, h1, h2, h3⟩
    · exact .inl rfl
    · rw [upd_ne nap, O.at_] at h1
      cases h1
      rw [lookup_putO] at h2
      by_cases z : g = f
      · exact .inr ⟨_, _, _, f, ds, O.at_, hf, z ▸ h3⟩
      · rw [if_neg z] at h2
        exact .inr ⟨_, _, _, g, d1, O.at_, h2, h3⟩
theorem sh_app {m : MM D} (he : Sem K none (PE_ K) te m) : SemH K C i0 (tDrop (tBM K "list" rAppend (tFld K (tVar i0) f) (tCons te tNil))) (hApp i0 f m) := fun E0 a Hs0 H0 σ Hs H sl ob R oc hf E P => by
  unfold hApp at hf
  cases e : m (oRho a i0 sl ob) with
  | none => rw [e] at hf; cases hf
  | some pr =>
    obtain ⟨d, r⟩ := pr
    rw [e] at hf
    simp only at hf
    cases e2 : ob.lookup f with
    | none => rw [e2] at hf; cases hf
    | some x =>
      rw [e2] at hf
      cases x with
      | s _ => cases hf
      | o ds =>
        simp only at hf
        by_cases hl : ds.length < 1000000
        · rw [if_pos hl] at hf
          cases hf
          obtain ⟨dx, fvs, O⟩ := R.e.at_
          obtain ⟨na, v, h1, p, vs, rfl, h2, h3, h4⟩ := O.fd f _ e2
          refine ⟨_, R.i, a, C, dx, fvs, _, rfl, O.at_, O.cls, na, h1, .inl ⟨rfl, _, SqL.of h2⟩, ?_⟩
          refine he Hs H σ Hs H _ R.rel d r e _ fun y Hs1 H1 ex w1 p1 => ?_
          have R1 := R.ext ex
          obtain ⟨dx1, fvs1, O1⟩ := R1.e.at_
          have ee := ex.same_none _ _ O.at_
          rw [O1.at_] at ee
          cases ee
          have h2' := ex.same_none _ _ h2
          refine ⟨p, vs, y, rfl, rfl, h2', by rw [h4.length]; exact big_lt hl, ?_⟩
          exact P _ Hs1 _ (R1.chg O1 e2 h1 (ex.p _ (by rw [h2]; simp) h3) ((h4.mono ex.g).append (.cons p1 .nil)) h2')
        · rw [if_neg hl] at hf; cases hf
theorem seqIx {k : Int} {n : Nat} (h0 : 0 ≤ k) (h1 : k < (n : Int)) : seqIndex? k n = some k.toNat := by
  unfold seqIndex?
  have h2 : ¬ k < 0 := by omega
  simp only [if_neg h2, decide_eq_true h0, decide_eq_true h1, Bool.and_self, if_true]
theorem sh_pop {m : MM D} (he : Sem K none (PE_ K) te m) : SemH K C i0 (tDrop (tBM K "list" rPopAt (tFld K (tVar i0) f) (tCons te tNil))) (hPop i0 f m) := fun E0 a Hs0 H0 σ Hs H sl ob R oc hf E P => by
  unfold hPop at hf
  cases e : m (oRho a i0 sl ob) with
  | none => rw [e] at hf; cases hf
  | some pr =>
    obtain ⟨d, r⟩ := pr
    rw [e] at hf
    cases d with
    | int k =>
      simp only at hf
      cases e2 : ob.lookup f with
      | none => rw [e2] at hf; cases hf
      | some x =>
        rw [e2] at hf
        cases x with
        | s _ => cases hf
        | o ds =>
          simp only at hf
          by_cases hl : 0 ≤ k ∧ k < (ds.length : Int) ∧ ds.length < 1000000
          · rw [if_pos hl] at hf
            cases hf
            obtain ⟨dx, fvs, O⟩ := R.e.at_
            obtain ⟨na, v, h1, p, vs, rfl, h2, h3, h4⟩ := O.fd f _ e2
            refine ⟨_, R.i, a, C, dx, fvs, _, rfl, O.at_, O.cls, na, h1, .inl ⟨rfl, _, SqL.of h2⟩, ?_⟩
            refine he Hs H σ Hs H _ R.rel _ r e _ fun y Hs1 H1 ex w1 p1 => ?_
            have R1 := R.ext ex
            obtain ⟨dx1, fvs1, O1⟩ := R1.e.at_
            have ee := ex.same_none _ _ O.at_
            rw [O1.at_] at ee
            cases ee
            have h2' := ex.same_none _ _ h2
            have hlen := h4.length
            have hk : k.toNat < vs.length := by omega
            refine ⟨p, vs, k, k.toNat, vs[k.toNat], rfl, by rw [p1.int_inv], h2', by omega, by omega, seqIx hl.1 (by omega), List.getElem?_eq_getElem hk, ?_⟩
            exact P _ Hs1 _ (R1.chg O1 e2 h1 (ex.p _ (by rw [h2]; simp) h3) ((h4.mono ex.g).eraseIdx k.toNat) h2')
          · rw [if_neg hl] at hf; cases hf
    | _ => cases hf
/-! ### methods -/
theorem sh_call {m : Str} {j : Nat} {F : FM} {ta : TA} {fl : MM (List D)} (hij : j ≠ i0) (ha : Sem K none (PA_ K) ta fl) : SemH K C i0 (tAsg (tMeth C m (spM K C F) [] L2.E0 (tVar i0) ta) (gName j)) (hCall i0 j m F fl) := fun E0 a Hs0 H0 σ Hs H sl ob R oc hf E P => by
  unfold hCall at hf
  cases e : fl (oRho a i0 sl ob) with
  | none => rw [e] at hf; cases hf
  | some pr =>
    obtain ⟨ds, r⟩ := pr
    rw [e] at hf
    simp only at hf
    by_cases hm : ob.lookup m = none
    · rw [if_pos hm] at hf
      cases e2 : F a ob ds with
      | none => rw [e2] at hf; cases hf
      | some q =>
        obtain ⟨d, ob'⟩ := q
        rw [e2] at hf
        cases hf
        obtain ⟨dx, fvs, O⟩ := R.e.at_
        refine ⟨_, R.i, a, dx, fvs, rfl, O.at_, O.no m hm, ?_⟩
        refine ha Hs H σ Hs H _ R.rel ds r e _ fun vs Hs1 H1 ex w1 p1 => ?_
        have R1 := R.ext ex
        refine ⟨Hs1, a, ob, vs ++ [], ds, d, ob', rfl, R1.e.s, R1.e.at_, by rw [List.append_nil]; exact p1, e2, fun v Hs' H' q p2 => ?_⟩
        refine P _ Hs' H' ⟨⟨R1.e.g.trans q.g, q.s, fun b o n z => q.k b o (fun x => ?_) (R1.e.k b o n z), fun b z => q.d b (R1.e.d b z), fun b z h => q.p b (R1.e.d b z) (R1.e.p b z h), q.at_, fun b hb => ?_⟩, ?_, ?_, fun i hi => ?_⟩
        · rcases R1.e.new b x with h | h
          · exact n h
          · rw [h] at z; cases z
        · rcases q.new b hb with h | h
          · exact R1.e.new b h
          · refine .inr ?_
            cases z : H0 b with
            | none => rfl
            | some u => exact absurd h (R1.e.d b (by rw [z]; simp))
        · simp [R.len]
        · rw [List.getElem?_set_ne hij]; exact R.i
        · by_cases z : j = i
          · subst z
            simp only [List.getD_eq_getElem?_getD]
            by_cases hl : j < sl.length
            · rw [List.getElem?_set_self hl, List.getElem?_set_self (by rw [R.len]; exact hl)]
              exact ⟨v, rfl, p2⟩
            · rw [List.getElem?_eq_none (l := sl.set j (Sl.s d)) (by rw [List.length_set]; omega)]; trivial
          · have q1 := R1.sl i hi
            simp only [List.getD_eq_getElem?_getD] at q1 ⊢
            rw [List.getElem?_set_ne z, List.getElem?_set_ne z]
            cases zz : sl[i]? with
            | none => trivial
            | some y =>
              rw [zz] at q1
              cases y with
              | no => trivial
              | s d' => obtain ⟨v', h1, h2⟩ := q1; exact ⟨v', h1, h2.mono q.g⟩
              | _ => exact q1.elim
    · rw [if_neg hm] at hf; cases hf
end
def runM (g : HS) (n N : Nat) : FM := fun a ob ds => if ds.length + 1 = n then (match g a ((.no :: ds.map .s) ++ List.replicate (N - n) .no) ob with
  | some (.ret d ob') => some (d, ob')
  | some (.nx _ ob') => some (.none, ob')
  | none => none) else none
section
variable {P : Program} {w : World} {K : PySem.W.Frag} {mg : Str → Option Value} {base : Heap} {qual x : Str} {params : Arguments} {body : List Stmt} {scope : Scope} {dvs : List V} {kws : List (Str × V)} {f C : Addr} {fd : FuncData} {N ps : List Str} {k : Nat} {g : HS}
theorem hrel_start {Hs H : Hp} {a : Addr} {ob : Ob} {ws : List V} {ds : List D} (s : Same Hs H) (O : ObAt K C a Hs H ob) (hr : RpAll K Hs ws ds) {n : Nat} (hn : ds.length + 1 = n) :
    HRel K (ExO H a ob) C a 0 Hs H (start N (.ref a :: ws)) Hs H ((.no :: ds.map .s) ++ List.replicate (N.length - n) .no) ob := by
  have hl := hr.length
  refine ⟨⟨Same.refl _, s, fun b o _ h => h, fun b h => h, fun b _ h => h, O, fun b h => .inl h⟩, by simp [L2.start, hl]; omega, rfl, fun i hi => ?_⟩
  cases i with
  | zero => exact absurd rfl hi
  | succ i =>
    have e1 : ((Sl.no :: ds.map Sl.s) ++ List.replicate (N.length - n) Sl.no).getD (i + 1) .no = ((ds[i]?).map Sl.s).getD .no := by
      rw [List.getD_eq_getElem?_getD]
      show ((ds.map Sl.s ++ List.replicate (N.length - n) Sl.no)[i]?).getD .no = _
      by_cases z : i < ds.length
      · rw [List.getElem?_append_left (by rw [List.length_map]; exact z), List.getElem?_map]
      · rw [List.getElem?_append_right (by rw [List.length_map]; omega), List.getElem?_replicate, List.getElem?_eq_none (by omega : ds.length ≤ i)]
        split <;> rfl
    rw [e1]
    cases z : ds[i]? with
    | none => trivial
    | some d =>
      obtain ⟨v, h1, h2⟩ := hr.get z
      refine ⟨v, ?_, h2⟩
      unfold L2.start
      have hi := (List.getElem?_eq_some_iff.mp h1).1
      rw [List.getElem?_append_left (by simp; omega), List.getElem?_map]
      show ((ws[i]?).map some) = _
      rw [h1]
      rfl
theorem meth_ok (F : FunD K x qual params body scope dvs kws f fd) (S : FnScope N ps scope)
    (hb : ∀ (cdv : Value) (A : Around) (outer : List Env) (s : Shared) (H : Hp) (E : XK), Room k (A.deeper (envOfC qual scope s.heap.objs.size f cdv)) → ∃ t, PSs (cxOf CX0 P w K mg base N qual scope f cdv A outer s H E).nox body t ∧ SemH K C 0 t g) :
    FnOk P w K mg base CX0 (k + 1) f fd ps (spM K C (runM g ps.length N.length)) := by
  refine F.ok S (fun vs H Q E h => ?_) (fun cdv A outer s H vs Q E hr h => ?_)
  · obtain ⟨Hs, a, ob, ws, ds, d, ob', rfl, h1, h2, h3, h4, h5⟩ := h
    unfold runM at h4
    by_cases hl : ds.length + 1 = ps.length
    · show ws.length + 1 = _
      rw [h3.length]; exact hl
    · rw [if_neg hl] at h4; cases h4
  · obtain ⟨Hs, a, ob, ws, ds, d, ob', rfl, h1, h2, h3, h4, h5⟩ := h
    obtain ⟨t, ht, hs⟩ := hb cdv A outer s H E hr
    refine ⟨t, PSs.nox ht, ?_⟩
    unfold runM at h4
    by_cases hl : ds.length + 1 = ps.length
    · rw [if_pos hl] at h4
      have R := hrel_start (N := N) h1 h2 h3 hl
      cases e : g a ((Sl.no :: ds.map Sl.s) ++ List.replicate (N.length - ps.length) .no) ob with
      | none => rw [e] at h4; cases h4
      | some o =>
        rw [e] at h4
        cases o with
        | ret d' ob2 =>
          cases h4
          exact hs _ a Hs H _ Hs H _ ob R _ e _ fun v Hs' H' q p => h5 v Hs' H' q p
        | nx sl' ob2 =>
          cases h4
          exact hs _ a Hs H _ Hs H _ ob R _ e _ fun σ' Hs' H' q => h5 _ Hs' H' q.e .non
    · rw [if_neg hl] at h4; cases h4
end
end DL

namespace DL
open PySem PySem.Spec PyProof.Rows L2
structure DH (X : Cx) (C : Addr) (i0 : Nat) (st : Stmt) (t : TS) (g : HS) : Prop where
  ps : PS X st t
  se : SemH X.K C i0 t g
structure DHs (X : Cx) (C : Addr) (i0 : Nat) (st : List Stmt) (t : TS) (g : HS) : Prop where
  ps : PSs X st t
  se : SemH X.K C i0 t g
structure HasM (P : Program) (w : World) (K : PySem.W.Frag) (mg : Str → Option Value) (base : Heap) (C : Addr) (m : Str) (k : Nat) (sp : Sp) : Prop where
  ex : ∃ f fd ps, FnOk P w K mg base CX0 k f fd ps sp ∧ Meth K C m f ∧ Binds K fd ps []
structure HasI (P : Program) (w : World) (K : PySem.W.Frag) (mg : Str → Option Value) (base : Heap) (C : Addr) (k : Nat) (sp : Sp) : Prop where
  ex : ∃ f fd ps, FnOk P w K mg base CX0 k f fd ps sp ∧ Mk K C f ∧ Binds K fd ps []
section
variable {X : Cx} {C : Addr} {i0 i j : Nat} {st : Stmt} {rest : List Stmt} {t u : TS} {g g' : HS} {x f m : Str} {pos p apos cpos pos' : Pos} {e c : Expr} {es : List Expr} {te : TE} {h : MM D} {hl : MM (List D)}
theorem dh_pure {g : MS} (h : DS X none st t g) : DH X C i0 st t (hP i0 g) := ⟨h.ps, sh_pure h.se⟩
theorem dhs_pure {st : List Stmt} {g : MS} (h : DSs X none st t g) : DHs X C i0 st t (hP i0 g) := ⟨h.ps, sh_pure h.se⟩
theorem dhs_nil : DHs X C i0 [] tNext hSkip := ⟨pss_nil, sh_skip⟩
theorem dhs_one (h : DH X C i0 st t g) : DHs X C i0 [st] t g := ⟨pss_one h.ps, h.se⟩
theorem dhs_cons (h1 : DH X C i0 st t g) (h2 : DHs X C i0 rest u g') : DHs X C i0 (st :: rest) (tSeq t u) (hSeq g g') := ⟨pss_cons h1.ps h2.ps, sh_seq h1.se h2.se⟩
theorem dh_if {a b : List Stmt} {tt : TT} {ft : MM Bool} (hc : DT X none c tt ft) (ha : DHs X C i0 a t g) (hb : DHs X C i0 b u g') : DH X C i0 (.If c a b pos) (tIfS tt t u) (hIf i0 ft g g') := ⟨ps_if hc.pe ha.ps hb.ps, sh_if hc.se ha.se hb.se⟩
theorem dh_while {body : List Stmt} {tt : TT} {ft : MM Bool} (n : Nat) (hp : PassesOwn (model X.prog X.w) X.A X.env X.xe) (hc : DT X none c tt ft) (hb : DHs X C i0 body t g) : DH X C i0 (.While c body [] pos) (tWhile tt t) (hWh i0 ft g n) := ⟨ps_while hp hc.pe hb.ps, sh_while n hc.se hb.se⟩
theorem dh_fld (na : NoAttr X.K C f) (he : DE X none e te h) (hN : X.N[i0]? = some x := by rfl) (hv : Vis X.env.scope x := by first | exact Or.inl rfl | exact Or.inr (Or.inl rfl) | exact Or.inr (Or.inr rfl)) (hd : (x == ("__debug__" : Str)) = false := by decide)
    (hcd : (x == ("__classdict__" : Str)) = false := by decide) (hs : swapsWith e (some (.Attribute (.Name x p) f pos')) pos.line X.env = pure false := by rfl) :
    DH X C i0 (.Assign [.Attribute (.Name x p) f pos'] e pos) (sFld X.K (tVar i0) te f) (hFld i0 f h) := ⟨ps_fld (pe_var hN hv hd hcd) he.pe hs, sh_fld na he.se⟩
theorem dh_fldO (na : NoAttr X.K C f) (he : PE X e te) (hn : NewF X.K none te hl) (hN : X.N[i0]? = some x := by rfl) (hv : Vis X.env.scope x := by first | exact Or.inl rfl | exact Or.inr (Or.inl rfl) | exact Or.inr (Or.inr rfl)) (hd : (x == ("__debug__" : Str)) = false := by decide)
    (hcd : (x == ("__classdict__" : Str)) = false := by decide) (hs : swapsWith e (some (.Attribute (.Name x p) f pos')) pos.line X.env = pure false := by rfl) :
    DH X C i0 (.Assign [.Attribute (.Name x p) f pos'] e pos) (sFld X.K (tVar i0) te f) (hFldO i0 f hl) := ⟨ps_fld (pe_var hN hv hd hcd) he hs, sh_fldO na hn⟩
theorem dh_app {p2 : Pos} (he : DE X none e te h) (hN : X.N[i0]? = some x := by rfl) (hv : Vis X.env.scope x := by first | exact Or.inl rfl | exact Or.inr (Or.inl rfl) | exact Or.inr (Or.inr rfl)) (hd : (x == ("__debug__" : Str)) = false := by decide)
    (hcd : (x == ("__classdict__" : Str)) = false := by decide) (hb : attributeBase (.Name x p) f X.env (eval (.Name x p) X.env) = eval (.Name x p) X.env := by rfl)
    (hb2 : attributeBase (.Attribute (.Name x p) f p2) "append" X.env (eval (.Attribute (.Name x p) f p2) X.env) = eval (.Attribute (.Name x p) f p2) X.env := by rfl)
    (h2 : (((backTo cpos (starEach [e] X.env)).all (!·.1) && (backToKw cpos (keywordEach [] X.env)).all (·.1.isSome)) && decide (([e].length + ([] : List Keyword).length + if ([] : List Keyword).isEmpty = true then 0 else 1) < 30)) = true := by rfl)
    (h3 : (apos.endLine == cpos.line) = true := by rfl) (h4 : starEach (e :: []) X.env = (false, eval e X.env) :: starEach [] X.env := by rfl) (h5 : (backTo cpos (starEach [] X.env)).any (·.1) = false := by rfl)
    (hs : swapsWith (.Call (.Attribute (.Attribute (.Name x p) f p2) "append" apos) [e] [] cpos) none pos.line X.env = pure false := by rfl) :
    DH X C i0 (.Expr (.Call (.Attribute (.Attribute (.Name x p) f p2) "append" apos) [e] [] cpos) pos) (tDrop (tBM X.K "list" rAppend (tFld X.K (tVar i0) f) (tCons te tNil))) (hApp i0 f h) :=
  ⟨ps_expr (pe_bm PySem.F.plainAttrs_list PySem.F.slot_list_append PySem.F.type_list_append mt_append (pe_fld (pe_var hN hv hd hcd) hb) (pa_cons he.pe pa_nil h4) hb2 h2 h3 h4 h5) hs, sh_app he.se⟩
theorem dh_pop {p2 : Pos} (he : DE X none e te h) (hN : X.N[i0]? = some x := by rfl) (hv : Vis X.env.scope x := by first | exact Or.inl rfl | exact Or.inr (Or.inl rfl) | exact Or.inr (Or.inr rfl)) (hd : (x == ("__debug__" : Str)) = false := by decide)
    (hcd : (x == ("__classdict__" : Str)) = false := by decide) (hb : attributeBase (.Name x p) f X.env (eval (.Name x p) X.env) = eval (.Name x p) X.env := by rfl)
    (hb2 : attributeBase (.Attribute (.Name x p) f p2) "pop" X.env (eval (.Attribute (.Name x p) f p2) X.env) = eval (.Attribute (.Name x p) f p2) X.env := by rfl)
    (h2 : (((backTo cpos (starEach [e] X.env)).all (!·.1) && (backToKw cpos (keywordEach [] X.env)).all (·.1.isSome)) && decide (([e].length + ([] : List Keyword).length + if ([] : List Keyword).isEmpty = true then 0 else 1) < 30)) = true := by rfl)
    (h3 : (apos.endLine == cpos.line) = true := by rfl) (h4 : starEach (e :: []) X.env = (false, eval e X.env) :: starEach [] X.env := by rfl) (h5 : (backTo cpos (starEach [] X.env)).any (·.1) = false := by rfl)
    (hs : swapsWith (.Call (.Attribute (.Attribute (.Name x p) f p2) "pop" apos) [e] [] cpos) none pos.line X.env = pure false := by rfl) :
    DH X C i0 (.Expr (.Call (.Attribute (.Attribute (.Name x p) f p2) "pop" apos) [e] [] cpos) pos) (tDrop (tBM X.K "list" rPopAt (tFld X.K (tVar i0) f) (tCons te tNil))) (hPop i0 f h) :=
  ⟨ps_expr (pe_bm PySem.F.plainAttrs_list PySem.F.slot_list_pop PySem.F.type_list_pop mt_popAt (pe_fld (pe_var hN hv hd hcd) hb) (pa_cons he.pe pa_nil h4) hb2 h2 h3 h4 h5) hs, sh_pop he.se⟩
/-- y = self.m(e, ..) -/
theorem dh_call {k : Nat} {F : FM} {ta : TA} {pl : PySem.Sem Bool} {y : Str} {p2 : Pos} (hN0 : X.N.Nodup) (hm : HasM X.prog X.w X.K X.mg X.base C m k (spM X.K C F)) (cl : Cls X.K C) (hr : Room k X.A) (hij : j ≠ i0) (ha : DA X none (e :: es) ta hl)
    (hN : X.N[i0]? = some x := by rfl) (hv : Vis X.env.scope x := by first | exact Or.inl rfl | exact Or.inr (Or.inl rfl) | exact Or.inr (Or.inr rfl)) (hd : (x == ("__debug__" : Str)) = false := by decide) (hcd : (x == ("__classdict__" : Str)) = false := by decide)
    (hst : starEach (e :: es) X.env = (false, eval e X.env) :: starEach es X.env := by rfl) (hpl : (backTo cpos (starEach es X.env)).any (·.1) = false := by rfl)
    (ht : eval (.Call (.Attribute (.Name x p) m apos) (e :: es) [] cpos) X.env = (do
      let ov ← eval (.Name x p) X.env
      standAt apos.atName
      let (f, first) ← holding [ov] (getMethod ov m pl)
      callWith cpos f first (backTo cpos (starEach (e :: es) X.env)) (backToKw cpos (keywordEach [] X.env))) := by rfl)
    (hi : X.N[j]? = some y := by rfl) (hx : Loc X.env.scope y := by first | exact Or.inl rfl | exact Or.inr rfl) (hs : swapsWith (.Call (.Attribute (.Name x p) m apos) (e :: es) [] cpos) (some (.Name y p2)) pos.line X.env = pure false := by rfl)
    (hf : X.fn y = true ∨ X.env.scope.names.lookup y = some .local := by first | exact .inl rfl | exact .inr rfl | assumption) :
    DH X C i0 (.Assign [.Name y p2] (.Call (.Attribute (.Name x p) m apos) (e :: es) [] cpos) pos) (tAsg (tMeth C m (spM X.K C F) [] L2.E0 (tVar i0) ta) (gName j)) (hCall i0 j m F hl) := by
  obtain ⟨fa, fd, ps, hF, hme, hb⟩ := hm.ex
  exact ⟨ps_set hN0 hi hx (pe_meth (pl := pl) (pe_var hN hv hd hcd) cl hme hF hr hb .nil pass0 ha.pe hst hpl ht) hs hf, sh_call hij ha.se⟩
/-- y = self.m() -/
theorem dh_call0 {k : Nat} {F : FM} {pl : PySem.Sem Bool} {y : Str} {p2 : Pos} (hN0 : X.N.Nodup) (hm : HasM X.prog X.w X.K X.mg X.base C m k (spM X.K C F)) (cl : Cls X.K C) (hr : Room k X.A) (hij : j ≠ i0)
    (hN : X.N[i0]? = some x := by rfl) (hv : Vis X.env.scope x := by first | exact Or.inl rfl | exact Or.inr (Or.inl rfl) | exact Or.inr (Or.inr rfl)) (hd : (x == ("__debug__" : Str)) = false := by decide) (hcd : (x == ("__classdict__" : Str)) = false := by decide)
    (ht : eval (.Call (.Attribute (.Name x p) m apos) [] [] cpos) X.env = (do
      let ov ← eval (.Name x p) X.env
      standAt apos.atName
      let (f, first) ← holding [ov] (getMethod ov m pl)
      callWith cpos f first (backTo cpos (starEach [] X.env)) (backToKw cpos (keywordEach [] X.env))) := by rfl)
    (hi : X.N[j]? = some y := by rfl) (hx : Loc X.env.scope y := by first | exact Or.inl rfl | exact Or.inr rfl) (hs : swapsWith (.Call (.Attribute (.Name x p) m apos) [] [] cpos) (some (.Name y p2)) pos.line X.env = pure false := by rfl)
    (hf : X.fn y = true ∨ X.env.scope.names.lookup y = some .local := by first | exact .inl rfl | exact .inr rfl | assumption) :
    DH X C i0 (.Assign [.Name y p2] (.Call (.Attribute (.Name x p) m apos) [] [] cpos) pos) (tAsg (tMeth C m (spM X.K C F) [] L2.E0 (tVar i0) tNil) (gName j)) (hCall i0 j m F (mRet [])) := by
  obtain ⟨fa, fd, ps, hF, hme, hb⟩ := hm.ex
  refine ⟨ps_set hN0 hi hx (pe_meth0 (pl := pl) (pe_var hN hv hd hcd) cl hme hF hr hb .nil pass0 ht) hs hf, sh_call hij ?_⟩
  exact fun Hs0 H0 σ Hs H ρ R d r hf Q q => by
    cases hf
    exact q [] Hs H (.refl R.same) R.row .nil
end
/-- what a body of one return hands back -/
def retE : List Stmt → Expr
  | [.Return (some e) _] => e
  | _ => .Constant .none 0 ⟨0, 0, 0, 0⟩
/-! ### a def that makes an object -/
def runMk (Fi : FM) (g : HS) (n N : Nat) : Addr → List D → Option D := fun a ds => if ds.length = n then (match Fi a [] ds with
  | some (.none, ob) => (match g a (ds.map .s ++ List.replicate (N - n) .no) ob with
    | some (.ret d _) => some d
    | some (.nx _ _) => some .none
    | none => none)
  | _ => none) else none
open Classical in
/-- what holds at every address -/
noncomputable def allA (R : Addr → List D → Option D) (ds : List D) : Option D := if h : ∃ d, ∀ a, R a ds = some d then some (Classical.choose h) else none
theorem allA_of {R : Addr → List D → Option D} {ds : List D} {d : D} (h : ∀ a, R a ds = some d) : allA R ds = some d := by
  have h' : ∃ d, ∀ a, R a ds = some d := ⟨d, h⟩
  unfold allA
  rw [dif_pos h']
  have := Classical.choose_spec h' 0
  rw [h 0] at this
  exact this.symm
theorem of_allA {R : Addr → List D → Option D} {ds : List D} {d : D} (h : allA R ds = some d) (a : Addr) : R a ds = some d := by
  unfold allA at h
  by_cases h' : ∃ d, ∀ a, R a ds = some d
  · rw [dif_pos h'] at h
    cases h
    exact Classical.choose_spec h' a
  · rw [dif_neg h'] at h; cases h
section
variable {P : Program} {w : World} {K : PySem.W.Frag} {mg : Str → Option Value} {base : Heap} {qual x : Str} {params : Arguments} {st : Stmt} {body : List Stmt} {scope : Scope} {dvs : List V} {kws : List (Str × V)} {f C : Addr} {fd : FuncData} {N ps : List Str} {k : Nat} {g : HS} {Fi : FM} {ta : TA}
theorem mk_ok (F : FunD K x qual params (st :: body) scope dvs kws f fd) (S : FnScope N ps scope) (hp : ps.length < N.length) (cl : Cls K C)
    (hb : ∀ (cdv : Value) (A : Around) (outer : List Env) (s : Shared) (H : Hp) (E : XK), Room k (A.deeper (envOfC qual scope s.heap.objs.size f cdv)) →
      PS (cxOf CX0 P w K mg base N qual scope f cdv A outer s H E).nox st (tAsg (tMake C (spM K C Fi) [] L2.E0 ta) (gName ps.length)) ∧ ∃ t, PSs (cxOf CX0 P w K mg base N qual scope f cdv A outer s H E).nox body t ∧ SemH K C ps.length t g)
    (hta : ∀ (vs : List V) (H : Hp) (Q : List V → Hp → Prop), vs.length = ps.length → Q vs H → ta (start N vs) H Q) :
    FnOk P w K mg base CX0 (k + 1) f fd ps (spP K (allA (runMk Fi g ps.length N.length))) := by
  refine F.ok S (fun vs H Q E h => ?_) (fun cdv A outer s H vs Q E hr h => ?_)
  · obtain ⟨Hs, ds, d, h1, h2, h3, h4⟩ := h
    have h3 := of_allA h3 0
    unfold runMk at h3
    by_cases hl : ds.length = ps.length
    · rw [h2.length]; exact hl
    · rw [if_neg hl] at h3; cases h3
  · obtain ⟨Hs, ds, d, h1, h2, h3, h4⟩ := h
    obtain ⟨hst, t, ht, hs⟩ := hb cdv A outer s H E hr
    have hl : ds.length = ps.length := by
      have h3 := of_allA h3 0
      unfold runMk at h3
      by_cases hl : ds.length = ps.length
      · exact hl
      · rw [if_neg hl] at h3; cases h3
    refine ⟨tSeq _ t, PSs.nox (pss_cons hst ht), ?_⟩
    refine hta vs H _ (by rw [h2.length]; exact hl) fun y dx ny ndx nex => ?_
    have h3 := of_allA h3 y
    unfold runMk at h3
    rw [if_pos hl] at h3
    cases e1 : Fi y [] ds with
    | none => rw [e1] at h3; cases h3
    | some q =>
      obtain ⟨d1, ob⟩ := q
      rw [e1] at h3
      cases d1 with
      | none =>
        simp only at h3
        have nb : ∀ b o, H b = some o → b ≠ y ∧ b ≠ dx := fun b o e => ⟨fun z => (by rw [z, ny] at e; cases e), fun z => (by rw [z, ndx] at e; cases e)⟩
        have s2 : Same H (upd (upd H dx (.own y)) y (.ins C dx [])) := fun b o e => by
          rw [upd_ne (nb b o e).1, upd_ne (nb b o e).2]; exact e
        have hsy : Hs y = none := h1.free ny
        refine ⟨Hs, y, [], vs, ds, .none, ob, by rw [List.append_nil], h1.trans s2, ⟨dx, [], upd_same, hsy, rfl, fun _ _ => rfl, fun f x z => (by cases z), fun f g ds es v _ z => (by cases z), cl⟩, h2, e1, fun v Hs' H' q p => ⟨p.non_inv, ?_⟩⟩
        have hy : ExO (upd (upd H dx (.own y)) y (.ins C dx [])) y [] = fun b => b = y := by
          funext b
          apply propext
          constructor
          · rintro (rfl | ⟨_, _, _, f, ds, _, z, _⟩)
            · rfl
            · cases z
          · exact Or.inl
        have R : HRel K (fun _ => False) C y ps.length Hs H ((start N vs).set ps.length (some (.ref y))) Hs' H' (ds.map .s ++ List.replicate (N.length - ps.length) .no) ob := by
          refine ⟨⟨q.g, q.s, fun b o _ e => q.k b o (by rw [hy]; exact (nb b o e).1) (s2 b o e), fun b e => ?_, fun b e z => ?_, q.at_, fun b hb => .inr ?_⟩, by simp [L2.start, hl, h2.length], ?_, fun i hi => ?_⟩
          · cases z : H b with
            | none => exact absurd z e
            | some o => exact q.d b (by rw [s2 b o z]; simp)
          · cases zz : H b with
            | none => exact absurd zz e
            | some o => exact q.p b (by rw [s2 b o zz]; simp) z
          · rcases q.new b hb with z | z
            · rw [hy] at z
              rw [z]; exact ny
            · cases zz : H b with
              | none => rfl
              | some o => rw [s2 b o zz] at z; cases z
          · rw [List.getElem?_set_self]
            simp [L2.start]
            have := h2.length
            omega
          · rw [List.getElem?_set_ne (fun z => hi z.symm), List.getD_eq_getElem?_getD]
            by_cases z : i < ds.length
            · rw [List.getElem?_append_left (by rw [List.length_map]; exact z), List.getElem?_map, List.getElem?_eq_getElem z]
              obtain ⟨v, g1, g2⟩ := h2.get (List.getElem?_eq_getElem z)
              refine ⟨v, ?_, g2.mono q.g⟩
              unfold L2.start
              rw [List.getElem?_append_left (by rw [List.length_map, h2.length]; exact z), List.getElem?_map, g1]
              rfl
            · rw [List.getElem?_append_right (by rw [List.length_map]; omega), List.getElem?_replicate]
              split <;> trivial
        cases e : g y (ds.map Sl.s ++ List.replicate (N.length - ps.length) .no) ob with
        | none => rw [e] at h3; cases h3
        | some o =>
          rw [e] at h3
          have fin : ∀ v Hs2 H2 ob2 d2, HEnd K (fun _ => False) C y Hs H Hs2 H2 ob2 → Rp K Hs2 v d2 → d2 = d → Q v H2 := fun v Hs2 H2 ob2 d2 q2 p2 z => h4 v Hs2 H2 ⟨q2.g, q2.s, fun b o _ e => q2.k b o (fun z => z) e, q2.d, q2.p⟩ (z ▸ p2)
          cases o with
          | ret d' ob2 =>
            cases h3
            exact hs _ y Hs H _ Hs' H' _ ob R _ e _ fun v Hs2 H2 q2 p2 => fin v Hs2 H2 ob2 _ q2 p2 rfl
          | nx sl' ob2 =>
            cases h3
            exact hs _ y Hs H _ Hs' H' _ ob R _ e _ fun σ2 Hs2 H2 q2 => fin _ Hs2 H2 ob2 .none q2.e .non rfl
      | _ => cases h3
theorem has_P {x : Str} {dvs : List V} {g : MS} {n M : Nat} (h : Has P w K mg base x k dvs (spG K (runDef g n M))) : Has P w K mg base x k dvs (spP K (runP g n M)) := by
  obtain ⟨f, fd, ps, ds, h1, h2⟩ := h.ex
  exact ⟨f, fd, ps, ds, okP_of h1, h2⟩
end
end DL

/-! enumerate over a zip of two lists -/
namespace DL
open PySem PySem.Spec PyProof.Rows L2
abbrev ZR (h : Heap) (z TI TO : Addr) (u v : Value) : Prop := h.get? z = some { cls := .type "zip", dict := none, data := .fields #[u, v, .bool false, .ref TI, .ref TO], slots := #[] }
/-- the tuple that was handed out is gone, or none was -/
def ZFree (h : Heap) (u : Value) : Prop := u = .none ∨ ∃ T : Nat, u = rawInt T ∧ h.get? T = none
section
variable {prog : Program} {w : World} {A : Around} {E : Value → Shared → Prop} {s : Shared} {z TI TO p q l m : Addr} {k : Nat} {us vs : Array Value} {x y c d u v : Value}
theorem zfree {R : Bool → Shared → Prop} (rz : ZR s.heap z TI TO u v) (fu : ZFree s.heap u) (hR : R true s) : wpAny (model prog w) A (Builtin.SmallTypes.ownedTupleIsFree (.ref z)) R E s := by
  unfold Builtin.SmallTypes.ownedTupleIsFree
  rcases fu with rfl | ⟨T, rfl, dead⟩
  · exact wpAny_bind (wpAny_field (x := .none) rz rfl rfl (wpAny_pure hR))
  · refine wpAny_bind (wpAny_field (x := rawInt T) rz rfl rfl ?_)
    have gone : ∀ {G : Option Obj → Shared → Prop}, G none s → wpAny (model prog w) A (loadIfAlive T) G E s := fun {G} g => by
      have g' : G (s.heap.get? T) s := by rw [dead]; exact g
      exact fun _ _ _ => g'
    show wpAny _ _ (loadIfAlive (Int.toNat (T : Int)) >>= _) R E s
    rw [Int.toNat_natCast]
    exact wpAny_bind (gone (wpAny_pure hR))
theorem zA_item {R : Value → Shared → Prop} (P : ZipApart z TI TO p q l m) (rz : ZR s.heap z TI TO u v) (fu : ZFree s.heap u) (ri : IsPair s.heap TI (.ref p) (.ref q)) (ro : IsPair s.heap TO c d)
    (rp : s.heap.IsListIter p l k) (rq : s.heap.IsListIter q m k) (rl : s.heap.IsList l us) (rm : s.heap.IsList m vs) (ex : us[k]? = some x) (ey : vs[k]? = some y)
    (hR : ∀ g, ZR g z TI TO (rawInt s.heap.objs.size) (.bool false) → IsPair g TO x y → g.IsListIter p l (k + 1) → g.IsListIter q m (k + 1) → IsPair g s.heap.objs.size x y → g.objs.size = s.heap.objs.size + 1 →
      (∀ b o, b ≠ z → b ≠ TO → b ≠ p → b ≠ q → s.heap.get? b = some o → g.get? b = some o) → R (.ref s.heap.objs.size) { s with heap := g }) :
    wpAny (model prog w) A (Builtin.«zip.__next__» ⟨[.ref z], []⟩) (fun fin t => ∃ a, fin = .done (.ret a) ∧ R a t) E s := by
  show wpAny (model prog w) A (field (.ref z) 2 >>= _) _ E s
  refine wpAny_bind (wpAny_field (x := .bool false) rz rfl rfl ?_)
  show wpAny (model prog w) A (field (.ref z) 3 >>= _) _ E s
  refine wpAny_bind (wpAny_field (x := .ref TI) rz rfl rfl ?_)
  refine wpAny_bind (wpAny_seqItems ri rfl ?_)
  show wpAny (model prog w) A (Builtin.SmallTypes.ownedTupleIsFree (.ref z) >>= _) _ E s
  refine wpAny_bind (zfree rz fu ?_)
  simp only [if_true]
  refine wpAny_bind (wpAny_rule (wpAny_bind (wpAny_field (x := .ref TO) rz rfl rfl ?_)))
  refine wpAny_bind (wpAny_setField_rec rz (by simp) fun g1 rz1 b1 => ?_)
  replace rz1 : ZR g1 z TI TO .ellipsis v := rz1
  refine wpAny_bind ?_
  simp only [List.zipIdx_cons, List.zipIdx_nil, List.forIn_cons, List.forIn_nil]
  refine wpAny_bind (wpAny_bind (wpAny_onRaise ?_))
  show wpAny (model prog w) A (Builtin.SmallTypes.nextOf (.ref p) >>= _) _ _ _
  refine wpAny_bind (wpAny_nextOf_list_item (rp.extBut b1.extBut P.i1z) (rl.extBut b1.extBut P.l1z) ex fun g2 rp2 b2 => wpAny_pure ?_)
  have ro2 : IsPair g2 TO c d := b2.extBut _ _ P.TOi1 (b1.extBut _ _ P.TOz ro)
  refine wpAny_bind (wpAny_seqItems ro2 rfl (wpAny_bind (wpAny_updateSeq_pair ro2 fun g3 ro3 b3 => ?_)))
  replace ro3 : IsPair g3 TO x d := ro3
  refine wpAny_bind (wpAny_letGo (wpAny_pure (wpAny_bind (wpAny_bind (wpAny_onRaise ?_)))))
  show wpAny (model prog w) A (Builtin.SmallTypes.nextOf (.ref q) >>= _) _ _ _
  have rq3 := ((rq.extBut b1.extBut P.i2z).extBut b2.extBut P.i12.symm).extBut b3.extBut P.TOi2.symm
  have rm3 := ((rm.extBut b1.extBut P.l2z).extBut b2.extBut P.l2i1).extBut b3.extBut P.l2TO
  refine wpAny_bind (wpAny_nextOf_list_item rq3 rm3 ey fun g4 rq4 b4 => wpAny_pure ?_)
  have ro4 : IsPair g4 TO x d := b4.extBut _ _ P.TOi2 ro3
  refine wpAny_bind (wpAny_seqItems ro4 rfl (wpAny_bind (wpAny_updateSeq_pair ro4 fun g5 ro5 b5 => ?_)))
  replace ro5 : IsPair g5 TO x y := ro5
  refine wpAny_bind (wpAny_letGo (wpAny_pure (wpAny_pure (wpAny_bind (wpAny_seqItems ro5 rfl (wpAny_bind (wpAny_newTuple ?_)))))))
  have sz : g5.objs.size = s.heap.objs.size := by rw [b5.1, b4.1, b3.1, b2.1, b1.1]
  have rz5 : ZR g5 z TI TO .ellipsis v := b5.extBut _ _ P.TOz.symm (b4.extBut _ _ P.i2z.symm (b3.extBut _ _ P.TOz.symm (b2.extBut _ _ P.i1z.symm rz1)))
  have st : ∀ b o, b ≠ z → b ≠ TO → b ≠ p → b ≠ q → s.heap.get? b = some o → g5.get? b = some o := fun b o n1 n2 n3 n4 e => b5.extBut _ _ n2 (b4.extBut _ _ n4 (b3.extBut _ _ n2 (b2.extBut _ _ n3 (b1.extBut _ _ n1 e))))
  have rp5 : g5.IsListIter p l (k + 1) := ((rp2.extBut b3.extBut P.TOi1.symm).extBut b4.extBut P.i12).extBut b5.extBut P.TOi1.symm
  have rq5 : g5.IsListIter q m (k + 1) := rq4.extBut b5.extBut P.TOi2.symm
  have lz : z < g5.objs.size := Heap.lt_size rz5
  show wpAny (model prog w) A (Builtin.SmallTypes.ownedTupleHandOut (.ref z) (.ref g5.objs.size) >>= _) _ E _
  unfold Builtin.SmallTypes.ownedTupleHandOut
  have rz6 : ZR (g5.push { cls := .type "tuple", data := .seq #[x, y] }) z TI TO .ellipsis v := Heap.get?_push_of_some _ rz5
  refine wpAny_bind (wpAny_bind (wpAny_setField_rec rz6 (by simp) fun g7 rz7 b7 => ?_))
  replace rz7 : ZR g7 z TI TO (rawInt g5.objs.size) v := rz7
  refine wpAny_setField_rec rz7 (by simp) fun g8 rz8 b8 => ?_
  replace rz8 : ZR g8 z TI TO (rawInt g5.objs.size) (.bool false) := rz8
  have fin : ∀ b o, b ≠ z → g5.get? b = some o → g8.get? b = some o := fun b o n e => b8.extBut _ _ n (b7.extBut _ _ n (Heap.get?_push_of_some _ e))
  have rt : IsPair g8 g5.objs.size x y := b8.extBut _ _ (Nat.ne_of_gt lz) (b7.extBut _ _ (Nat.ne_of_gt lz) (Heap.get?_push_size _ rfl))
  have s8 : g8.objs.size = g5.objs.size + 1 := by rw [b8.1, b7.1, Heap.size_push]
  rw [sz] at rz8 rt s8
  refine wpAny_pure ⟨_, rfl, ?_⟩
  show R (.ref g5.objs.size) _
  rw [sz]
  exact hR g8 rz8 (fin _ _ P.TOz ro5) (rp5.at fun o e => fin _ o P.i1z e) (rq5.at fun o e => fin _ o P.i2z e) rt s8 fun b o n1 n2 n3 n4 e => fin b o n1 (st b o n1 n2 n3 n4 e)
theorem zA_end {R : PySem.Fin → Shared → Prop} (hh : A.handled = none) (P : ZipApart z TI TO p q l m) (rz : ZR s.heap z TI TO u v) (fu : ZFree s.heap u) (ri : IsPair s.heap TI (.ref p) (.ref q)) (ro : IsPair s.heap TO c d)
    (rp : s.heap.IsListIter p l k) (rq : s.heap.IsListIter q m k) (rl : s.heap.IsList l us) (rm : s.heap.IsList m vs) (en : us[k]? = none ∨ vs[k]? = none)
    (hE : ∀ g b, (∀ b o, b ≠ z → b ≠ TO → b ≠ p → b ≠ q → s.heap.get? b = some o → g.get? b = some o) → (∃ o, g.get? b = some o ∧ o.cls = .type "StopIteration") → E (.ref b) { s with heap := g }) :
    wpAny (model prog w) A (Builtin.«zip.__next__» ⟨[.ref z], []⟩) R E s := by
  show wpAny (model prog w) A (field (.ref z) 2 >>= _) _ E s
  refine wpAny_bind (wpAny_field (x := .bool false) rz rfl rfl ?_)
  show wpAny (model prog w) A (field (.ref z) 3 >>= _) _ E s
  refine wpAny_bind (wpAny_field (x := .ref TI) rz rfl rfl ?_)
  refine wpAny_bind (wpAny_seqItems ri rfl ?_)
  show wpAny (model prog w) A (Builtin.SmallTypes.ownedTupleIsFree (.ref z) >>= _) _ E s
  refine wpAny_bind (zfree rz fu ?_)
  simp only [if_true]
  refine wpAny_bind (wpAny_rule (wpAny_bind (wpAny_field (x := .ref TO) rz rfl rfl ?_)))
  refine wpAny_bind (wpAny_setField_rec rz (by simp) fun g1 rz1 b1 => ?_)
  replace rz1 : ZR g1 z TI TO .ellipsis v := rz1
  refine wpAny_bind ?_
  simp only [List.zipIdx_cons, List.zipIdx_nil, List.forIn_cons, List.forIn_nil]
  refine wpAny_bind (wpAny_bind (wpAny_onRaise ?_))
  show wpAny (model prog w) A (Builtin.SmallTypes.nextOf (.ref p) >>= _) _ _ _
  cases ex : us[k]? with
  | none =>
    refine wpAny_bind (wpAny_nextOf_list_end hh (rp.extBut b1.extBut P.i1z) (rl.extBut b1.extBut P.l1z) ex fun g2 b b2 hb => ?_)
    obtain ⟨ob, h1, h2⟩ := hb
    have rz2 : ZR g2 z TI TO .ellipsis v := b2 _ _ P.i1z.symm rz1
    have nb : b ≠ z := fun e => by subst e; rw [rz2] at h1; cases h1; simp at h2
    exact wpAny_setField_rec rz2 (by simp) fun g3 _ b3 => hE g3 b (fun b o n1 _ n3 _ e => b3.extBut _ _ n1 (b2 _ _ n3 (b1.extBut _ _ n1 e))) ⟨ob, b3.extBut _ _ nb h1, h2⟩
  | some x =>
    have ey : vs[k]? = none := by
      rcases en with h | h
      · rw [ex] at h; cases h
      · exact h
    refine wpAny_bind (wpAny_nextOf_list_item (rp.extBut b1.extBut P.i1z) (rl.extBut b1.extBut P.l1z) ex fun g2 rp2 b2 => wpAny_pure ?_)
    have ro2 : IsPair g2 TO c d := b2.extBut _ _ P.TOi1 (b1.extBut _ _ P.TOz ro)
    refine wpAny_bind (wpAny_seqItems ro2 rfl (wpAny_bind (wpAny_updateSeq_pair ro2 fun g3 ro3 b3 => ?_)))
    refine wpAny_bind (wpAny_letGo (wpAny_pure (wpAny_bind (wpAny_bind (wpAny_onRaise ?_)))))
    show wpAny (model prog w) A (Builtin.SmallTypes.nextOf (.ref q) >>= _) _ _ _
    have rq3 := ((rq.extBut b1.extBut P.i2z).extBut b2.extBut P.i12.symm).extBut b3.extBut P.TOi2.symm
    have rm3 := ((rm.extBut b1.extBut P.l2z).extBut b2.extBut P.l2i1).extBut b3.extBut P.l2TO
    refine wpAny_bind (wpAny_nextOf_list_end hh rq3 rm3 ey fun g4 b b4 hb => ?_)
    obtain ⟨ob, h1, h2⟩ := hb
    have rz4 : ZR g4 z TI TO .ellipsis v := b4 _ _ P.i2z.symm (b3.extBut _ _ P.TOz.symm (b2.extBut _ _ P.i1z.symm rz1))
    have nb : b ≠ z := fun e => by subst e; rw [rz4] at h1; cases h1; simp at h2
    exact wpAny_setField_rec rz4 (by simp) fun g5 _ b5 => hE g5 b (fun b o n1 n2 n3 n4 e => b5.extBut _ _ n1 (b4 _ _ n4 (b3.extBut _ _ n2 (b2.extBut _ _ n3 (b1.extBut _ _ n1 e))))) ⟨ob, b5.extBut _ _ nb h1, h2⟩
/-- in either state -/
def ZAny (h : Heap) (z TI TO : Addr) : Prop := ∃ u f, ZR h z TI TO u (.bool f) ∧ (u = .none ∨ ∃ T : Nat, u = rawInt T)
theorem ZAny.split {h : Heap} (Z : ZAny h z TI TO) : (∃ u v, ZR h z TI TO u v ∧ ZFree h u) ∨ ∃ T f o, IsZipHeld h z TI TO T f ∧ h.get? T = some o := by
  obtain ⟨u, f, rz, rfl | ⟨T, rfl⟩⟩ := Z
  · exact .inl ⟨_, _, rz, .inl rfl⟩
  · cases e : h.get? T with
    | none => exact .inl ⟨_, _, rz, .inr ⟨T, rfl, e⟩⟩
    | some o => exact .inr ⟨T, f, o, rz, e⟩
theorem znext_item {R : Value → Shared → Prop} (P : ZipApart z TI TO p q l m) (Z : ZAny s.heap z TI TO) (ri : IsPair s.heap TI (.ref p) (.ref q)) (ro : IsPair s.heap TO c d)
    (rp : s.heap.IsListIter p l k) (rq : s.heap.IsListIter q m k) (rl : s.heap.IsList l us) (rm : s.heap.IsList m vs) (ex : us[k]? = some x) (ey : vs[k]? = some y)
    (hR : ∀ g, ZAny g z TI TO → (∃ c d, IsPair g TO c d) → g.IsListIter p l (k + 1) → g.IsListIter q m (k + 1) → IsPair g s.heap.objs.size x y → g.objs.size = s.heap.objs.size + 1 →
      (∀ b o, b ≠ z → b ≠ TO → b ≠ p → b ≠ q → s.heap.get? b = some o → g.get? b = some o) → R (.ref s.heap.objs.size) { s with heap := g }) :
    wpAny (model prog w) A (Builtin.SmallTypes.nextOf (.ref z)) R E s := by
  obtain ⟨u0, f0, rz0, _⟩ := id Z
  have ty : s.TypeIs (.ref z) "zip" := ⟨_, rz0, rfl⟩
  unfold Builtin.SmallTypes.nextOf
  refine wpAny_bind (wpAny_callSpecial?_slot (name := Str.ofString "__next__") ty F.slot_zip_next (wpAny_call_entry F.slot_zip_next ty F.entry_zip_next ?_ (F.args_zip_next_1 _)))
  rcases Z.split with ⟨u, v, rz, fu⟩ | ⟨T, f, o, rz, al⟩
  · exact zA_item P rz fu ri ro rp rq rl rm ex ey fun g h1 h2 h3 h4 h5 h6 h7 => wpAny_pure (hR g ⟨_, _, h1, .inr ⟨_, rfl⟩⟩ ⟨_, _, h2⟩ h3 h4 h5 h6 h7)
  · exact zip_next_item_held P rz al ri rp rq rl rm ex ey fun g h1 h3 h4 h5 h6 h7 => wpAny_pure (hR g ⟨_, _, h1, .inr ⟨_, rfl⟩⟩ ⟨_, _, h7 _ _ P.TOz P.TOi1 P.TOi2 ro⟩ h3 h4 h5 h6 fun b o n1 _ n3 n4 e => h7 b o n1 n3 n4 e)
theorem znext_end {R : Value → Shared → Prop} (hh : A.handled = none) (P : ZipApart z TI TO p q l m) (Z : ZAny s.heap z TI TO) (ri : IsPair s.heap TI (.ref p) (.ref q)) (ro : IsPair s.heap TO c d)
    (rp : s.heap.IsListIter p l k) (rq : s.heap.IsListIter q m k) (rl : s.heap.IsList l us) (rm : s.heap.IsList m vs) (en : us[k]? = none ∨ vs[k]? = none)
    (hE : ∀ g b, (∀ b o, b ≠ z → b ≠ TO → b ≠ p → b ≠ q → s.heap.get? b = some o → g.get? b = some o) → (∃ o, g.get? b = some o ∧ o.cls = .type "StopIteration") → E (.ref b) { s with heap := g }) :
    wpAny (model prog w) A (Builtin.SmallTypes.nextOf (.ref z)) R E s := by
  obtain ⟨u0, f0, rz0, _⟩ := id Z
  have ty : s.TypeIs (.ref z) "zip" := ⟨_, rz0, rfl⟩
  unfold Builtin.SmallTypes.nextOf
  refine wpAny_bind (wpAny_callSpecial?_slot (name := Str.ofString "__next__") ty F.slot_zip_next (wpAny_call_entry F.slot_zip_next ty F.entry_zip_next ?_ (F.args_zip_next_1 _)))
  rcases Z.split with ⟨u, v, rz, fu⟩ | ⟨T, f, o, rz, al⟩
  · exact zA_end hh P rz fu ri ro rp rq rl rm en hE
  · exact zip_next_end_held hh P rz al ri rp rq rl rm en fun g b h1 h2 => hE g b (fun b o n1 _ n3 n4 e => h1 b o n1 n3 n4 e) h2
/-- enumerate over any inner iterator -/
theorem enum_over {e it : Addr} {n : Int} {old : Value} {G : Value → Heap → Prop} {R : Option Value → Shared → Prop} (re : IsEnum s.heap e it n old)
    (inner : ∀ {B : Around} (F : Value → Shared → Prop), (∀ a g t, G a g → IsEnum g e it n old → F a { s with heap := g, toks := t }) → wpAny (model prog w) B (Builtin.SmallTypes.nextOf (.ref it)) F E s)
    (hR : ∀ a g g' t, G a g → IsEnumOut g' e it (n + 1) a g.objs.size → g'.get? g.objs.size = some { cls := .type "tuple", data := .seq #[.int n t, a] } → g'.objs.size = g.objs.size + 1 → (∀ b o, b ≠ e → g.get? b = some o → g'.get? b = some o) → R (some (.ref g.objs.size)) { s with heap := g', toks := t + 1 }) :
    wpAny (model prog w) A (Builtin.«enumerate.__next__» ⟨[.ref e], []⟩) (fun fin t => ∃ a, fin = .done (.ret a) ∧ R (some a) t) E s := by
  show wpAny (model prog w) A (field (.ref e) 2 >>= _) _ E s
  refine wpAny_bind (wpAny_field (x := .ref it) re rfl rfl (wpAny_bind (inner _ fun a g1 t ga r1 => ?_)))
  show wpAny (model prog w) A (field (.ref e) 3 >>= _) _ E { s with heap := g1, toks := t }
  refine wpAny_bind (wpAny_field (s := { s with heap := g1, toks := t }) (x := rawInt n) r1 rfl rfl ?_)
  show wpAny (model prog w) A (field (.ref e) 4 >>= _) _ E { s with heap := g1, toks := t }
  refine wpAny_bind (wpAny_field (s := { s with heap := g1, toks := t }) (x := .none) r1 rfl rfl ?_)
  show wpAny (model prog w) A (mkInt n >>= _) _ E { s with heap := g1, toks := t }
  refine wpAny_bind (wpAny_mkInt ?_)
  show wpAny (model prog w) A (setField (.ref e) 3 (rawInt (n + 1)) >>= _) _ E { s with heap := g1, toks := t + 1 }
  refine wpAny_bind (wpAny_setField_rec (s := { s with heap := g1, toks := t + 1 }) r1 (by simp) fun g2 r2 b2 => ?_)
  replace r2 : IsEnum g2 e it (n + 1) old := r2
  show wpAny (model prog w) A (setField (.ref e) 4 .none >>= _) _ E { s with heap := g2, toks := t + 1 }
  refine wpAny_bind (wpAny_setField_rec (s := { s with heap := g2, toks := t + 1 }) r2 (by simp) fun g3 r3 b3 => ?_)
  replace r3 : IsEnum g3 e it (n + 1) old := r3
  show wpAny (model prog w) A (newTuple [.int n t, a] >>= _) _ E { s with heap := g3, toks := t + 1 }
  refine wpAny_bind (wpAny_newTuple ?_)
  have sz : g3.objs.size = g1.objs.size := by rw [b3.1, b2.1]
  have r4 : IsEnum (g3.push { cls := .type "tuple", data := .seq #[.int n t, a] }) e it (n + 1) old := Heap.get?_push_of_some _ r3
  have le : e < g3.objs.size := Heap.lt_size r3
  have tt : (g3.push { cls := .type "tuple", data := .seq #[.int n t, a] }).get? g3.objs.size = some { cls := .type "tuple", data := .seq #[.int n t, a] } := Heap.get?_push_size _ rfl
  show wpAny (model prog w) A (Builtin.SmallTypes.ownedTupleIsFree (.ref e) >>= _) _ E { s with heap := g3.push { cls := .type "tuple", data := .seq #[.int n t, a] }, toks := t + 1 }
  have z4 : (g3.push { cls := .type "tuple", data := .seq #[.int n t, a] }).objs.size = g3.objs.size + 1 := Heap.size_push ..
  have k4 : ∀ b o, b ≠ e → g1.get? b = some o → (g3.push { cls := .type "tuple", data := .seq #[.int n t, a] }).get? b = some o := fun b o ne h => Heap.get?_push_of_some _ (b3.extBut _ _ ne (b2.extBut _ _ ne h))
  show wpAny (model prog w) A (Builtin.SmallTypes.ownedTupleIsFree (.ref e) >>= _) _ E { s with heap := g3.push { cls := .type "tuple", data := .seq #[.int n t, a] }, toks := t + 1 }
  generalize g3.push { cls := .type "tuple", data := .seq #[.int n t, a] } = g4 at r4 tt z4 k4 ⊢
  rw [sz] at tt z4 le ⊢
  unfold Builtin.SmallTypes.ownedTupleIsFree
  refine wpAny_bind (wpAny_bind (wpAny_field (s := { s with heap := g4, toks := t + 1 }) (x := .none) r4 rfl rfl (wpAny_pure ?_)))
  simp only [if_true]
  refine wpAny_bind (wpAny_rule (wpAny_bind (wpAny_field (s := { s with heap := g4, toks := t + 1 }) (x := old) r4 rfl rfl (wpAny_bind (wpAny_setField_rec (s := { s with heap := g4, toks := t + 1 }) r4 (by simp) fun g5 r5 b5 => ?_)))))
  replace r5 : IsEnum g5 e it (n + 1) a := r5
  show wpAny (model prog w) A (Builtin.SmallTypes.ownedTupleHandOut (.ref e) (.ref g1.objs.size) >>= _) _ E { s with heap := g5, toks := t + 1 }
  unfold Builtin.SmallTypes.ownedTupleHandOut
  refine wpAny_bind (wpAny_bind (wpAny_setField_rec (s := { s with heap := g5, toks := t + 1 }) r5 (by simp) fun g6 r6 b6 => ?_))
  replace r6 : IsEnumOut g6 e it (n + 1) a g1.objs.size := r6
  refine wpAny_setField_rec (s := { s with heap := g6, toks := t + 1 }) r6 (by simp) fun g7 r7 b7 => ?_
  replace r7 : IsEnumOut g7 e it (n + 1) a g1.objs.size := r7
  have up : ∀ b o, b ≠ e → g4.get? b = some o → g7.get? b = some o := fun b o ne h => b7.extBut _ _ ne (b6.extBut _ _ ne (b5.extBut _ _ ne h))
  exact wpAny_bind (wpAny_letGo (wpAny_pure ⟨_, rfl, hR a g1 g7 t ga r7 (up _ _ (Nat.ne_of_gt le) tt) (by rw [b7.1, b6.1, b5.1, z4]) fun b o ne h => up b o ne (k4 b o ne h)⟩))
end
end DL

namespace DL
open PySem PySem.Spec PyProof.Rows L2
def Itez (K : PySem.W.Frag) (a b : Addr) : It :=
  ⟨fun i H => ∃ (xs ys : List V) (x y : V), SqL K H a xs ∧ SqL K H b ys ∧ xs[i]? = some x ∧ ys[i]? = some y,
    fun i H v H' => ∃ T U x y, v = .ref U ∧ H T = none ∧ H U = none ∧ U ≠ T ∧ H' = upd (upd H T (.tup [x, y])) U (.tup [.int (i : Nat), .ref T]) ∧ (∀ xs, SqL K H a xs → xs[i]? = some x) ∧ ∀ ys, SqL K H b ys → ys[i]? = some y,
    fun i H => ∃ xs ys : List V, SqL K H a xs ∧ SqL K H b ys ∧ i = min xs.length ys.length⟩
theorem apart_ez {a b N : Addr} (h1 : a < N) (h2 : b < N) : ZipApart (N + 4) (N + 2) (N + 3) N (N + 1) a b := by
  have ne : ∀ i j : Nat, i ≠ j → ¬ @Eq Nat (N + i) (N + j) := fun i j h e => h (Nat.add_left_cancel e)
  have ne0 : ∀ i : Nat, i ≠ 0 → ¬ @Eq Nat (N + i) N := fun i h e => h (Nat.add_left_cancel (e.trans (Nat.add_zero N).symm))
  have far : ∀ (c : Nat) (i : Nat), @LT.lt Nat _ c N → ¬ @Eq Nat c (N + i) := fun c i h e => Nat.lt_irrefl _ (Nat.lt_of_lt_of_le h (by rw [e]; exact Nat.le_add_right N i))
  exact ⟨ne 2 4 (by decide), ne 3 4 (by decide), fun e => ne0 4 (by decide) e.symm, ne 1 4 (by decide), ne 2 3 (by decide), ne0 2 (by decide), ne 2 1 (by decide), ne0 3 (by decide), ne 3 1 (by decide), fun e => ne0 1 (by decide) e.symm,
    far a 4 h1, far a 3 h1, far a 0 h1, far a 1 h1, far b 4 h2, far b 3 h2, far b 0 h2, far b 1 h2⟩
structure EzSt (N a b : Addr) (i : Nat) (h : Heap) : Prop where
  e : ∃ old, IsEnum h (N + 5) (N + 4) (i : Int) old
  z : ZAny h (N + 4) (N + 2) (N + 3)
  ti : IsPair h (N + 2) (.ref N) (.ref (N + 1))
  to : ∃ c d, IsPair h (N + 3) c d
  p : h.IsListIter N a i
  q : h.IsListIter (N + 1) b i
theorem EzSt.keep {N a b : Addr} {i : Nat} {h h' : Heap} (S : EzSt N a b i h) (k : ∀ c ∈ [N + 5, N + 4, N + 2, N + 3, N, N + 1], ∀ o, h.get? c = some o → h'.get? c = some o) : EzSt N a b i h' := by
  obtain ⟨⟨old, e⟩, ⟨u, f, z, hu⟩, ti, ⟨c, d, to⟩, p, q⟩ := S
  exact ⟨⟨old, k _ (by simp) _ e⟩, ⟨u, f, k _ (by simp) _ z, hu⟩, k _ (by simp) _ ti, ⟨c, d, k _ (by simp) _ to⟩, p.at fun o w => k N (by simp) o w, q.at fun o w => k (N + 1) (by simp) o w⟩
theorem pairs_at {xs : List V} {its : List Value} {i : Nat} {x : V} (r : Vals xs its) (h : xs[i]? = some x) : ∃ u, its.toArray[i]? = some u ∧ RelV x u := by
  obtain ⟨u, h1, h2⟩ := r.get h
  exact ⟨u, by simpa using h1, h2⟩
theorem turn_ez {P : Program} {w : World} {K : PySem.W.Frag} {elts : List Expr} {kk : Nat} {tpos : Pos} {a b N : Addr} (h1 : a < N) (h2 : b < N) :
    Turn P w K (.Tuple elts kk tpos) (Itez K a b) [N + 5, N + 4, N + 2, N + 3, N, N + 1] (N + 5) (EzSt N a b) := by
  have Z := apart_ez h1 h2
  refine ⟨by simp, fun i h S c hc => ?_, fun i h h' S k => S.keep k, ?_, ?_, ?_⟩
  · obtain ⟨⟨old, e⟩, ⟨u, f, z, hu⟩, ti, ⟨c0, d0, to⟩, p, q⟩ := S
    have hc' : c = N + 5 ∨ c = N + 4 ∨ c = N + 2 ∨ c = N + 3 ∨ c = N ∨ c = N + 1 := by simpa using hc
    rcases hc' with rfl | rfl | rfl | rfl | rfl | rfl
    · exact ⟨_, e, fun v q => nomatch q⟩
    · exact ⟨_, z, fun v q => nomatch q⟩
    · exact ⟨_, ti, fun v q => nomatch q⟩
    · exact ⟨_, to, fun v q => nomatch q⟩
    · obtain ⟨o, e, _, d⟩ := p; exact ⟨o, e, fun v q => by rw [d] at q; cases q⟩
    · obtain ⟨o, e, _, d⟩ := q; exact ⟨o, e, fun v q => by rw [d] at q; cases q⟩
  · intro X hP hw hK hc i pins s σ H E I hf S hg
    subst hP hw hK
    obtain ⟨xs, ys, x, y, hqx, hqy, hx, hy⟩ := hg
    obtain ⟨⟨old, he⟩, hz, ti, ⟨c0, d0, to⟩, p, q⟩ := S
    obtain ⟨its, rv, hl, _⟩ := I.src (S := (true, a)) hqx
    obtain ⟨its2, rv2, hl2, _⟩ := I.src (S := (true, b)) hqy
    have hl : s.heap.IsList a its.toArray := hl
    have hl2 : s.heap.IsList b its2.toArray := hl2
    obtain ⟨vx, ex, rx⟩ := pairs_at rv hx
    obtain ⟨vy, ey, ry⟩ := pairs_at rv2 hy
    have ty : s.TypeIs (.ref (N + 5)) "enumerate" := ⟨_, he, rfl⟩
    have n54 : (N + 5 : Addr) ≠ N + 4 := by change @Ne Nat _ _; omega
    have nN : ∀ {c : Addr}, c ∈ [N + 4, N + 2, N + 3, N, N + 1] → (N + 5 : Addr) ≠ c := fun {c} hc e => by
      have hc' : c = N + 4 ∨ c = N + 2 ∨ c = N + 3 ∨ c = N ∨ c = N + 1 := by simpa using hc
      rcases hc' with r | r | r | r | r <;> (rw [r] at e; revert e; change @Ne Nat _ _; omega)
    unfold pyNext
    refine wpAny_bind (wpAny_attempt (wpAny_callSpecial?_slot (name := Str.ofString "__next__") ty F.slot_enumerate_next (wpAny_call_entry F.slot_enumerate_next ty F.entry_enumerate_next ?_ (F.args_enumerate_next_1 _))))
    let G : Value → Heap → Prop := fun v g => v = .ref s.heap.objs.size ∧ ZAny g (N + 4) (N + 2) (N + 3) ∧ (∃ c d, IsPair g (N + 3) c d) ∧ g.IsListIter N a (i + 1) ∧ g.IsListIter (N + 1) b (i + 1) ∧ IsPair g s.heap.objs.size vx vy ∧ g.objs.size = s.heap.objs.size + 1 ∧
      (∀ c o, c ≠ N + 4 → c ≠ N + 3 → c ≠ N → c ≠ N + 1 → s.heap.get? c = some o → g.get? c = some o)
    refine enum_over (G := G) (R := fun r t => wpAny _ _ (pure r) _ _ t) he (fun F0 hF => ?_) ?_
    · refine znext_item Z hz ti to p q hl hl2 ex ey fun g z1 z2 z3 z4 z5 z6 z7 => ?_
      exact hF _ g s.toks ⟨rfl, z1, z2, z3, z4, z5, z6, z7⟩ (z7 _ _ (nN (by simp)) (nN (by simp)) (nN (by simp)) (nN (by simp)) he)
    · rintro v g g' t ⟨rfl, z1, ⟨c1, d1, z2⟩, z3, z4, z5, z6, z7⟩ ho hU hsz hk
      refine wpAny_pure ⟨_, rfl, ?_⟩
      refine wpAny_letOwnedTupleGo_enum ho fun g2 he2 hs2 => ?_
      have hT : H s.heap.objs.size = none := I.hok.fresh (Nat.le_refl _)
      have hUn : H g.objs.size = none := I.hok.fresh (by rw [z6]; exact Nat.le_succ _)
      have ne : (g.objs.size : Addr) ≠ s.heap.objs.size := by rw [z6]; exact Nat.succ_ne_self _
      have I1 : Inv X pins σ (upd H s.heap.objs.size (.tup [x, y])) { s with heap := g, toks := t } :=
        I.turnedNew (t' := t) (ch := [N + 5, N + 4, N + 2, N + 3, N, N + 1]) (fun c o hb z => z7 c o (fun w => hb (by simp [w])) (fun w => hb (by simp [w])) (fun w => hb (by simp [w])) (fun w => hb (by simp [w])) z) hf (Nat.le_refl _)
          ⟨by show 2 ≤ sizeLine; decide, [vx, vy], .cons rx (.cons ry .nil), ⟨_, z5, rfl, _, rfl⟩⟩
      have fpT : ∀ c ∈ [N + 5, N + 4, N + 2, N + 3, N, N + 1], (c : Addr) ≠ s.heap.objs.size := fun c hc e => by
        obtain ⟨o, ho', _⟩ : ∃ o, s.heap.get? c = some o ∧ True := by
          have hc' : c = N + 5 ∨ c = N + 4 ∨ c = N + 2 ∨ c = N + 3 ∨ c = N ∨ c = N + 1 := by simpa using hc
          rcases hc' with r | r | r | r | r | r
          · rw [r]; exact ⟨_, he, trivial⟩
          · obtain ⟨u, f, z, _⟩ := hz; rw [r]; exact ⟨_, z, trivial⟩
          · rw [r]; exact ⟨_, ti, trivial⟩
          · rw [r]; exact ⟨_, to, trivial⟩
          · obtain ⟨o, e, _⟩ := p; rw [r]; exact ⟨o, e, trivial⟩
          · obtain ⟨o, e, _⟩ := q; rw [r]; exact ⟨o, e, trivial⟩
        have := Heap.lt_size ho'
        rw [e] at this
        exact absurd this (Nat.lt_irrefl _)
      have hf1 : ∀ c ∈ [N + 5, N + 4, N + 2, N + 3, N, N + 1], FpOk X pins (upd H s.heap.objs.size (.tup [x, y])) c := fun c hc => by
        obtain ⟨f0, f1, f2, f3, f4, f5⟩ := hf c hc
        exact ⟨by rw [upd_ne (fpT c hc)]; exact f0, f1, f2, f3, f4, f5⟩
      have I2 : Inv X pins σ (upd (upd H s.heap.objs.size (.tup [x, y])) g.objs.size (.tup [.int (i : Nat), .ref s.heap.objs.size])) { s with heap := g2, toks := t + 1 } :=
        I1.turnedNew (t' := t + 1) (ch := [N + 5, N + 4, N + 2, N + 3, N, N + 1]) (fun c o hb z => hs2.extBut c o (fun w => hb (by simp [w])) (hk c o (fun w => hb (by simp [w])) z)) hf1 (Nat.le_refl _)
          ⟨by show 2 ≤ sizeLine; decide, [.int (i : Nat) t, .ref s.heap.objs.size], .cons ⟨t, rfl⟩ (.cons rfl .nil), ⟨_, hs2.extBut _ _ (fun w => ?_) hU, rfl, _, rfl⟩⟩
      · have i1 : ((i : Int) + 1) = ((i + 1 : Nat) : Int) := by omega
        refine ⟨.ref g.objs.size, _, I2, rfl, ⟨s.heap.objs.size, g.objs.size, x, y, rfl, hT, hUn, ne, rfl, fun zs hz' => ?_, fun zs hz' => ?_⟩, ⟨⟨_, by rw [← i1]; exact he2⟩, ?_, ?_, ⟨c1, d1, ?_⟩, ?_, ?_⟩, fun c hc => ?_⟩
        · rw [I.src_inj (S := (true, a)) hz' hqx]; exact hx
        · rw [I.src_inj (S := (true, b)) hz' hqy]; exact hy
        · obtain ⟨u, f, z, hu⟩ := z1
          exact ⟨u, f, hs2.extBut _ _ n54.symm (hk _ _ n54.symm z), hu⟩
        · exact hs2.extBut _ _ (nN (by simp)).symm (hk _ _ (nN (by simp)).symm (z7 _ _ Z.TIz Z.TITO Z.TIi1 Z.TIi2 ti))
        · exact hs2.extBut _ _ (nN (by simp)).symm (hk _ _ (nN (by simp)).symm z2)
        · exact z3.at fun o e => hs2.extBut _ _ (nN (by simp)).symm (hk _ _ (nN (by simp)).symm e)
        · exact z4.at fun o e => hs2.extBut _ _ (nN (by simp)).symm (hk _ _ (nN (by simp)).symm e)
        · have fpU : (c : Addr) ≠ g.objs.size := fun e => by
            have f0 := (hf1 c hc).1
            obtain ⟨o, e2⟩ : ∃ o, s.heap.get? c = some o := by
              have hc' : c = N + 5 ∨ c = N + 4 ∨ c = N + 2 ∨ c = N + 3 ∨ c = N ∨ c = N + 1 := by simpa using hc
              rcases hc' with r | r | r | r | r | r
              · rw [r]; exact ⟨_, he⟩
              · obtain ⟨u, f, z, _⟩ := hz; rw [r]; exact ⟨_, z⟩
              · rw [r]; exact ⟨_, ti⟩
              · rw [r]; exact ⟨_, to⟩
              · obtain ⟨o, e, _⟩ := p; rw [r]; exact ⟨o, e⟩
              · obtain ⟨o, e, _⟩ := q; rw [r]; exact ⟨o, e⟩
            have := Heap.lt_size e2
            rw [e, z6] at this
            exact absurd (Nat.lt_trans (Nat.lt_succ_self _) this) (Nat.lt_irrefl _)
          rw [upd_ne fpU]
          exact (hf1 c hc).1
      · have l5 := Heap.lt_size he
        rw [← w, z6] at l5
        exact absurd (Nat.lt_trans (Nat.lt_succ_self _) l5) (Nat.lt_irrefl _)
  · intro X hP hw hK hc i pins s σ H E I hf S hg
    subst hP hw hK
    obtain ⟨xs, ys, hqx, hqy, hi⟩ := hg
    obtain ⟨⟨old, he⟩, hz, ti, ⟨c0, d0, to⟩, p, q⟩ := S
    obtain ⟨its, rv, hl, _⟩ := I.src (S := (true, a)) hqx
    obtain ⟨its2, rv2, hl2, _⟩ := I.src (S := (true, b)) hqy
    have hl : s.heap.IsList a its.toArray := hl
    have hl2 : s.heap.IsList b its2.toArray := hl2
    have ty : s.TypeIs (.ref (N + 5)) "enumerate" := ⟨_, he, rfl⟩
    unfold pyNext
    refine wpAny_bind (wpAny_attempt (wpAny_callSpecial?_slot (name := Str.ofString "__next__") ty F.slot_enumerate_next (wpAny_call_entry F.slot_enumerate_next ty F.entry_enumerate_next ?_ (F.args_enumerate_next_1 _))))
    have en : its.toArray[i]? = none ∨ its2.toArray[i]? = none := by
      have l1 := rv.length
      have l2 := rv2.length
      rw [hi]
      rcases Nat.le_total xs.length ys.length with h | h
      · exact .inl (by rw [Nat.min_eq_left h]; simp [l1])
      · exact .inr (by rw [Nat.min_eq_right h]; simp [l2])
    show wpAny _ _ (field (.ref (N + 5)) 2 >>= _) _ _ s
    refine wpAny_bind (wpAny_field (x := .ref (N + 4)) he rfl rfl (wpAny_bind (znext_end (I.ok.hd hc) Z hz ti to p q hl hl2 en fun g c hk hx => ?_)))
    obtain ⟨o, ho, hcl⟩ := hx
    refine wpAny_bind (wpAny_isInstance (T := "StopIteration") (b := true) ⟨o, ho, hcl⟩ isSubtype_stop (wpAny_pure ⟨rfl, ?_⟩))
    exact I.turnedL (t' := s.toks) (ch := [N + 5, N + 4, N + 2, N + 3, N, N + 1]) (fun c o hb z => hk c o (fun w => hb (by simp [w])) (fun w => hb (by simp [w])) (fun w => hb (by simp [w])) (fun w => hb (by simp [w])) z) hf
  · intro A i s Q E S h
    obtain ⟨old, he⟩ := S.e
    exact wpAny_pyIter_enum he h
end DL
namespace DL
open PySem PySem.Spec PyProof.Rows L2
theorem meets_enumZ {z TI TO : Addr} : Meets (Builtin.«enumerate.__new__» ⟨[.type "enumerate", .ref z], []⟩) (fun _ R s => IsZip s.heap z TI TO .none ∧
      R (.ok (.ret (.ref s.heap.objs.size))) { s with heap := s.heap.push { cls := .type "enumerate", data := .fields #[.none, .bool false, .ref z, rawInt 0, .none, .none] } }) :=
  .of_wp fun prog w A R s h => by
    obtain ⟨hp, g, d, tk, os⟩ := s
    obtain ⟨hz, h⟩ := h
    have hsub := sub_enumerate
    have hit : ∀ {A' : Around} {E : Value → Shared → Prop} {Q : Value → Shared → Prop}, Q (.ref z) ⟨hp, g, d, tk, os⟩ → wpAny (model prog w) A' (pyIter (.ref z)) Q E ⟨hp, g, d, tk, os⟩ := fun q => wpAny_pyIter_zip hz q
    wp_walk using hit
    refine wpAny_stack_any fun st => wpAny_pure ?_
    split
    · rename_i c _ _ _ _ _
      cases (c == Value.type "enumerate")
      · wp_walk using hit
        exact ⟨_, rfl, h⟩
      · wp_walk using hit
        exact ⟨_, rfl, h⟩
    · wp_walk using hit
      exact ⟨_, rfl, h⟩
theorem enumZ_begins {prog : Program} {w : World} {A : Around} {E : Value → Shared → Prop} {s : Shared} {z TI TO : Addr} {Q : Value → Shared → Prop} (hz : IsZip s.heap z TI TO .none)
    (h : ∀ h', IsEnum h' s.heap.objs.size z 0 .none → h'.objs.size = s.heap.objs.size + 1 → (∀ b o, s.heap.get? b = some o → h'.get? b = some o) → Q (.ref s.heap.objs.size) { s with heap := h' }) :
    wpAny (model prog w) A (call (.type "enumerate") [.ref z]) Q E s := by
  refine callType_new F.called_enumerate (by decide) (F.typeCall_enumerate_1 _) (F.newCall_enumerate_1 _) (fun obj => F.args_object_init_2 obj _) F.entry_enumerate_new meets_enumZ ⟨hz, ?_⟩
  have he : IsEnum (s.heap.push { cls := .type "enumerate", data := .fields #[.none, .bool false, .ref z, rawInt 0, .none, .none] }) s.heap.objs.size z 0 .none := Heap.get?_push_size s.heap rfl
  exact ⟨⟨_, he, rfl⟩, h _ he (Heap.size_push ..) fun b o x => Heap.get?_push_of_some _ x⟩
section
variable {X : Cx} {rc : Rc} {m : Bool} {tg e e2 : Expr} {te te2 : TE} {f f2 : MM D} {ta : TA} {p p2 pos pos2 tpos : Pos} {elts : List Expr} {kk : Nat}
def iEz (K : PySem.W.Frag) (ta : TA) : TI := fun σ H R => ta σ H fun vs H1 => ∃ (a b : Addr) (xs ys : List V), vs = [.ref a, .ref b] ∧ SqL K H1 a xs ∧ SqL K H1 b ys ∧ R (Itez K a b) H1
theorem pi_ez (hg : Gl X "enumerate") (hm : X.mg "enumerate" = none) (hg2 : Gl X "zip") (hm2 : X.mg "zip" = none) (ha : PA X [e, e2] ta)
    (hs0 : starEach [.Call (.Name "zip" p2) [e, e2] [] pos2] X.env = [(false, eval (.Call (.Name "zip" p2) [e, e2] [] pos2) X.env)] := by rfl)
    (hs : starEach [e, e2] X.env = (false, eval e X.env) :: starEach [e2] X.env := by rfl) (hpl : (backTo pos2 (starEach [e2] X.env)).any (·.1) = false := by rfl) :
    PI X (.Tuple elts kk tpos) (.Call (.Name "enumerate" p) [.Call (.Name "zip" p2) [e, e2] [] pos2] [] pos) (iEz X.K ta) := by
  refine ⟨fun pins s σ H R I h => ?_⟩
  refine Call_ (ld_blt I hg hm boot_enumerate (PyProof.Rows.callWith_type1 ?_ hs0 rfl))
  rw [hs0]
  show wpAny _ _ (spliced [(false, eval (.Call (.Name "zip" p2) [e, e2] [] pos2) X.env)]) _ _ s
  refine Calls.spliced_cons ?_
  refine Call_ (ld_blt I hg2 hm2 PyProof.Rows.boot_zip (PyProof.Rows.callWith_type1 (thn (ha.run pos2 pins s σ H _ I h) fun us s1 ⟨vs, H1, I1, r1, q1⟩ => ?_) hs hpl))
  obtain ⟨a, b, xs, ys, ex, hqx, hqy, q⟩ := q1
  subst ex
  cases r1 with
  | cons r rr =>
    cases rr with
    | cons r' rr =>
      cases rr
      cases r
      cases r'
      obtain ⟨its, rv, p1, _⟩ := I1.src (S := (true, a)) hqx
      obtain ⟨its2, rv2, q1, _⟩ := I1.src (S := (true, b)) hqy
      have ha1 : a < s1.heap.objs.size := p1.lt
      have hb1 : b < s1.heap.objs.size := q1.lt
      refine zip_begins2 (src_begins (true, a) its.toArray) (src_begins (true, b) its2.toArray) p1 q1 fun h' hz hTI hTO h1 h2 hsz hk => ?_
      refine Calls.spliced_nil ?_
      refine enumZ_begins (s := { s1 with heap := h' }) hz fun h2' he hsz2 hk2 => wpAny_pyIter_enum he ?_
      have I2 : Inv X pins σ H1 { s1 with heap := h2' } := I1.kept (t' := s1.toks) fun b o z => hk2 b o (hk b o z)
      have e5 : h'.objs.size = s1.heap.objs.size + 5 := hsz
      have he' : IsEnum h2' (s1.heap.objs.size + 5) (s1.heap.objs.size + 4) ((0 : Nat) : Int) .none := by
        have := he
        rw [show ({ s1 with heap := h' } : Shared).heap.objs.size = s1.heap.objs.size + 5 from e5] at this
        exact this
      refine ⟨s1.heap.objs.size + 5, [s1.heap.objs.size + 5, s1.heap.objs.size + 4, s1.heap.objs.size + 2, s1.heap.objs.size + 3, s1.heap.objs.size, s1.heap.objs.size + 1], EzSt s1.heap.objs.size a b, Itez X.K a b, H1, ?_, I2, turn_ez ha1 hb1, ?_, I1.fpNew (h' := h2') _ fun c hcm => ?_, q⟩
      · show Value.ref h'.objs.size = _
        rw [e5]
      · exact ⟨⟨_, he'⟩, ⟨_, _, hk2 _ _ hz, .inl rfl⟩, hk2 _ _ hTI, ⟨_, _, hk2 _ _ hTO⟩, ItS.keep (S := (true, a)) (itS_begin (S := (true, a)) h1) fun o z => hk2 _ o z, ItS.keep (S := (true, b)) (itS_begin (S := (true, b)) h2) fun o z => hk2 _ o z⟩
      · have e' : c = s1.heap.objs.size + 5 ∨ c = s1.heap.objs.size + 4 ∨ c = s1.heap.objs.size + 2 ∨ c = s1.heap.objs.size + 3 ∨ c = s1.heap.objs.size ∨ c = s1.heap.objs.size + 1 := by simpa using hcm
        rcases e' with z | z | z | z | z | z <;> (rw [z]; first | exact Nat.le_add_right _ _ | exact Nat.le_refl _)
def ezD : D → D → Option (List D)
  | .list xs, .list ys => some (enumD (List.zipWith (fun x y => PyData.tuple [x, y]) xs ys))
  | _, _ => none
def mEz (f f2 : MM D) : MM (List D) := mBind f fun a => mBind f2 fun b => mO (ezD a b)
theorem Bst.srcL {K : PySem.W.Frag} {H0 Hs H : Hp} {v : V} {ds : List D} (h : Bst K rc m H0 Hs H v (.list ds)) (s : Same Hs H) : ∃ a, v = .ref a ∧ (∀ Hs2 H2, Same Hs Hs2 → Same Hs2 H2 → (Kp rc H H2 ∨ m = true ∧ Kp rc H0 H2) → ∃ xs, SqL K H2 a xs ∧ RpAll K Hs2 xs ds) := by
  obtain ⟨a, xs, rfl, h1, h2⟩ := h.b.lst_inv s
  refine ⟨a, rfl, fun Hs2 H2 g s2 k => ?_⟩
  obtain ⟨a', ys, e, h3, h4⟩ := (h.at g s2 k).lst_inv s2
  cases e
  exact ⟨ys, SqL.of h3, h4⟩
theorem kdi_ez (K : PySem.W.Frag) (hm : X.mg "enumerate" = none) (hm2 : X.mg "zip" = none) (ha : DB X rc m e te f) (hb : DB X rc m e2 te2 f2) (hg : Gl X "enumerate" := by rfl) (hg2 : Gl X "zip" := by rfl)
    (hs0 : starEach [.Call (.Name "zip" p2) [e, e2] [] pos2] X.env = [(false, eval (.Call (.Name "zip" p2) [e, e2] [] pos2) X.env)] := by rfl)
    (hs : starEach [e, e2] X.env = (false, eval e X.env) :: starEach [e2] X.env := by rfl) (hs2 : starEach [e2] X.env = (false, eval e2 X.env) :: starEach [] X.env := by rfl) (hpl : (backTo pos2 (starEach [e2] X.env)).any (·.1) = false := by rfl) (hK : X.K = K := by rfl) :
    DI X rc m (.Tuple elts kk tpos) (.Call (.Name "enumerate" p) [.Call (.Name "zip" p2) [e, e2] [] pos2] [] pos) (iEz K (tCons te (tCons te2 tNil))) (mEz f f2) := by
  subst hK
  refine ⟨pi_ez hg hm hg2 hm2 (pa_cons ha.pe (pa_cons hb.pe pa_nil hs2) hs) hs0 hs hpl, fun Hs0 H0 σ Hs H ρ R ds r hf Q q => ?_⟩
  obtain ⟨a, r1, h1, h2⟩ := mBind_some hf
  obtain ⟨b, r2, h3, h4⟩ := mBind_some h2
  obtain ⟨h5, rfl⟩ := mO_some h4
  cases a with
  | list xs =>
    cases b with
    | list ys =>
      cases h5
      refine ha.se Hs0 H0 σ Hs H ρ R _ r1 h1 _ fun x Hs1 H1 e1 w1 p1 => ?_
      refine hb.se Hs0 H0 σ Hs1 H1 (ρ.wr r1) (R.ext' e1 w1) _ _ h3 _ fun y Hs2 H2 e2 w2 p2 => ?_
      obtain ⟨a1, rfl, src1⟩ := (p1.ext e2).srcL e2.s
      obtain ⟨a2, rfl, src2⟩ := p2.srcL e2.s
      obtain ⟨vs1, c1, c2⟩ := src1 Hs2 H2 (Same.refl _) e2.s (.inl fun b o _ z => z)
      obtain ⟨vs2, d1, d2⟩ := src2 Hs2 H2 (Same.refl _) e2.s (.inl fun b o _ z => z)
      refine ⟨a1, a2, vs1, vs2, rfl, c1, d1, q _ Hs2 H2 (e1.trans e2) w2 ?_⟩
      have hl : (enumD (List.zipWith (fun x y => PyData.tuple [x, y]) xs ys)).length = min xs.length ys.length := by rw [enumD_len, List.length_zipWith]
      refine ⟨fun i Hs4 H4 g s k hi => ?_, fun Hs4 H4 g s k => ?_, fun i Hs4 H4 x H5 g s k hi hy => ?_⟩
      · obtain ⟨us, q1, q2⟩ := src1 Hs4 H4 g s k
        obtain ⟨ws, q3, q4⟩ := src2 Hs4 H4 g s k
        rw [hl] at hi
        obtain ⟨d1, hd1⟩ := getAt (ds := xs) (i := i) (by omega)
        obtain ⟨d2, hd2⟩ := getAt (ds := ys) (i := i) (by omega)
        obtain ⟨v1, hv1, _⟩ := q2.get hd1
        obtain ⟨v2, hv2, _⟩ := q4.get hd2
        exact ⟨us, ws, v1, v2, q1, q3, hv1, hv2⟩
      · obtain ⟨us, q1, q2⟩ := src1 Hs4 H4 g s k
        obtain ⟨ws, q3, q4⟩ := src2 Hs4 H4 g s k
        exact ⟨us, ws, q1, q3, by rw [hl, q2.length, q4.length]⟩
      · obtain ⟨us, q1, q2⟩ := src1 Hs4 H4 g s k
        obtain ⟨ws, q3, q4⟩ := src2 Hs4 H4 g s k
        obtain ⟨T, U, v1, v2, rfl, hT, hU, ne, rfl, y1, y2⟩ := hy
        obtain ⟨d1, hd1, hp1⟩ := q2.getV (y1 us q1)
        obtain ⟨d2, hd2, hp2⟩ := q4.getV (y2 ws q3)
        have hn := same_none s hT
        have ex1 : Ext none Hs4 H4 (upd Hs4 T (.tup [v1, v2])) (upd H4 T (.tup [v1, v2])) := .new s hT
        have hU1 : upd H4 T (.tup [v1, v2]) U = none := by rw [upd_ne ne]; exact hU
        have hn2 := same_none ex1.s hU1
        have ht : Rp X.K (upd Hs4 T (.tup [v1, v2])) (.ref T) (.tuple [d1, d2]) := .tup (.inl (.inl upd_same)) (RpAll.new hn (.cons hp1 (.cons hp2 .nil)))
        refine ⟨_, .tuple [.int (i : Nat), .tuple [d1, d2]], ex1.trans (.new ex1.s hU1), enumD_get ?_, .tup (.inl (.inl upd_same)) (RpAll.new hn2 (.cons (.int _) (.cons ht .nil)))⟩
        rw [List.getElem?_zipWith, hd1, hd2]
    | _ => cases h5
  | _ => cases h5
end
end DL

/-! sorted of a tuple of ints -/
namespace DL
open PySem PySem.Spec PyProof.Rows Srt SrtO L2
section
variable {prog : Program} {w : World} {A : Around} {E : Value → Shared → Prop} {s : Shared}
theorem collectT {t : Addr} {us : List Value} {R : List Value → Shared → Prop} (ht : s.heap.IsTuple t us.toArray)
    (hR : R us { s with heap := (s.heap.push (seqObj "list" #[] 0)).update s.heap.objs.size (Obj.mapSeq (· ++ us.toArray)) }) (hz : us.length ≤ sizeLine) : wpAny (model prog w) A (collect (.ref t)) R E s := by
  obtain ⟨ob, h1, h2, k, h3⟩ := id ht
  unfold collect
  refine wpAny_bind (wpAny_runValue (codeAny_builtin entry_proto_collect' ?_))
  show wpAny (model prog w) _ (do again (.builtin "list.__iadd__" ⟨[← newList [], .ref t], []⟩)) _ _ s
  refine wpAny_bind (wpAny_newList (wpAny_pure ⟨Code.quiet_builtin _ (by decide +kernel), codeAny_builtin entry_list_iadd' ?_⟩))
  show wpAny (model prog w) _ (Builtin.List.listExtendWith (.ref s.heap.objs.size) (.ref t) (.ref s.heap.objs.size)) _ _ { s with heap := s.heap.push (seqObj "list" #[] 0) }
  unfold Builtin.List.listExtendWith
  have h1' : (s.heap.push (seqObj "list" #[] 0)).get? t = some ob := Heap.get?_push_of_some _ h1
  refine wpAny_bind (wpAny_typeOf (T := "tuple") ⟨ob, h1', h2⟩ ?_)
  have e : (Value.type "tuple" == Value.type "tuple") = true := by rfl
  rw [if_pos (by rw [e]; simp)]
  refine wpAny_bind (listItems_at h1' h3 (wpAny_bind (listItems_at (xs := #[]) (n := 0) (Heap.get?_push_size _ rfl) rfl ?_)))
  rw [if_neg (by simp)]
  refine wpAny_bind (listUpdate_at (xs := #[]) (n := 0) (Heap.get?_push_size _ rfl) rfl (wpAny_pure ?_) (Nat.zero_le _) (by show (#[] ++ us.toArray).size ≤ sizeLine + 1; rw [Array.size_append, List.size_toArray]; show 0 + us.length ≤ _; omega))
  refine wpAny_bind (m := load s.heap.objs.size) (wpAny_load (get?_update_seq (Heap.get?_push_size _ rfl) _) ?_)
  show wpAny (model prog w) _ (pure ((#[] : Array Value) ++ us.toArray).toList) _ E _
  rw [show ((#[] : Array Value) ++ us.toArray).toList = us by simp]
  exact wpAny_pure hR
theorem sortedT {t : Addr} {us : List Value} {ns : List Int} {R : Value → Shared → Prop} (ht : s.heap.IsTuple t us.toArray) (hz : us.length ≤ sizeLine) (hi : IntsAre us ns)
    (hR : ∀ out : List Value, Srtd ltIv out → Stb ltIv out us → R (.ref (s.heap.objs.size + 1)) { s with heap := sortedAll s.heap us out.toArray }) : wpAny (model prog w) A (call (.builtin "sorted") [.ref t]) R E s := by
  refine Calls.call_function_entry kind_sorted plain_sorted entry_sorted (args_sorted1 _) ?_
  unfold Builtin.«sorted»
  refine wpAny_bind (m := checkCount "sorted" 1 1 _) (wpAny_pure (wpAny_bind (collectT ht (wpAny_bind (wpAny_newList ?_ hz)) hz)))
  have sz : ((s.heap.push (seqObj "list" #[] 0)).update s.heap.objs.size (Obj.mapSeq (· ++ us.toArray))).objs.size = s.heap.objs.size + 1 := by rw [Heap.size_update, size_push']
  have at1 : (((s.heap.push (seqObj "list" #[] 0)).update s.heap.objs.size (Obj.mapSeq (· ++ us.toArray))).push (seqObj "list" us.toArray 0)).get? (s.heap.objs.size + 1) = some (seqObj "list" us.toArray 0) := by rw [← sz]; exact Heap.get?_push_size _ rfl
  show wpAny (model prog w) _ _ _ _ { s with heap := ((s.heap.push (seqObj "list" #[] 0)).update s.heap.objs.size (Obj.mapSeq (· ++ us.toArray))).push (seqObj "list" us.toArray 0) }
  rw [sz]
  refine wpAny_bind (wpAny_holding (wpAny_call_entry slot_list_sort ⟨_, at1, rfl⟩ entry_list_sort (list_sort_ord swo_int at1 hz (fun h2 => ints_sortable hi h2) fun out h1 h2 => ⟨_, rfl, wpAny_pure ⟨_, rfl, hR out h1 h2⟩⟩) (args_list_sort _)))
end
/-- sorted(x) of a tuple of ints: a new list -/
def rSortT (K : PySem.W.Frag) : List V → Hp → VK → Prop := fun vs H Q => ∃ (a : Addr) (ns : List Int), vs = [V.ref a] ∧ SqT K H a (ns.map V.int) ∧
  ∀ (ns' : List Int) (p : Addr), ns'.Perm ns → ns'.Pairwise (· ≤ ·) → H p = none → Q (.ref p) (upd H p (.lst (ns'.map V.int)))
theorem cr_sortT {X : Cx} : CallR X (.builtin "sorted") (rSortT X.K) := by
  intro pins s σ H vs us Q I r h
  obtain ⟨a, ns, rfl, hs, q⟩ := h
  obtain ⟨its, rv, ht, hz⟩ := I.src (S := (false, a)) hs
  have ht : s.heap.IsTuple a its.toArray := ht
  rw [Vals.ref1 r]
  have hi := rv.ints
  refine sortedT ht (by rw [← rv.length]; exact hz) hi fun out h1 h2 => ?_
  obtain ⟨k1, k2, k3⟩ := ints_out hi h1 h2
  obtain ⟨ep, he⟩ := sortedAll_at s.heap its out.toArray
  have hl : ((out.map iv).map V.int).length ≤ sizeLine := by
    rw [List.length_map, k2.length_eq]
    rw [List.length_map] at hz
    exact hz
  exact ⟨.ref _, upd H (s.heap.objs.size + 1) (.lst ((out.map iv).map V.int)), I.laid (t' := s.toks) (fun _ _ => sortedAll_old) (Nat.le_succ _) ⟨hl, out, ep, vals_of_ints k1, he⟩, rfl, q _ _ k2 k3 (I.hok.fresh (Nat.le_succ _))⟩
def insI (i : Int) : List Int → List Int
  | [] => [i]
  | j :: r => if i ≤ j then i :: j :: r else j :: insI i r
def srtI : List Int → List Int
  | [] => []
  | i :: r => insI i (srtI r)
theorem insI_perm (i : Int) : ∀ l : List Int, (insI i l).Perm (i :: l)
  | [] => List.Perm.refl _
  | j :: r => by
    unfold insI
    split
    · exact List.Perm.refl _
    · exact ((insI_perm i r).cons j).trans (List.Perm.swap i j r)
theorem srtI_perm : ∀ l : List Int, (srtI l).Perm l
  | [] => List.Perm.refl _
  | i :: r => (insI_perm i _).trans ((srtI_perm r).cons i)
theorem insI_pw (i : Int) : ∀ l : List Int, l.Pairwise (· ≤ ·) → (insI i l).Pairwise (· ≤ ·)
  | [], _ => List.pairwise_singleton ..
  | j :: r, h => by
    unfold insI
    rw [List.pairwise_cons] at h
    split
    · rename_i hij
      rw [List.pairwise_cons]
      refine ⟨fun k hk => ?_, by rw [List.pairwise_cons]; exact h⟩
      rcases List.mem_cons.mp hk with rfl | hk
      · exact hij
      · exact Int.le_trans hij (h.1 k hk)
    · rename_i hij
      rw [List.pairwise_cons]
      refine ⟨fun k hk => ?_, insI_pw i r h.2⟩
      rcases List.mem_cons.mp ((insI_perm i r).mem_iff.mp hk) with rfl | hk
      · omega
      · exact h.1 k hk
theorem srtI_pw : ∀ l : List Int, (srtI l).Pairwise (· ≤ ·)
  | [] => .nil
  | i :: r => insI_pw i _ (srtI_pw r)
def dSorted : D → Option D
  | .tuple ds => (match toInts ds with
    | some ns => some (.list ((srtI ns).map .int))
    | none => none)
  | _ => none
theorem c_sortT {K : PySem.W.Frag} {rc : Rc} : CallS K rc (rSortT K) dSorted := fun Hs H x a d e hx ho Q q => by
  cases a with
  | tuple ds =>
    simp only [dSorted] at ho
    cases e1 : toInts ds with
    | none => rw [e1] at ho; cases ho
    | some ns =>
      rw [e1] at ho
      cases ho
      obtain ⟨p, vs, rfl, h1, h2⟩ := hx.tup_inv
      rw [toInts_eq e1] at h2
      rw [h2.ints] at h1
      refine ⟨p, ns, rfl, seqT_same e h1, fun ns' l h3 h4 hl => ?_⟩
      have : ns' = srtI ns := (h3.trans (srtI_perm ns).symm).eq_of_pairwise (fun a b _ _ h5 h6 => Int.le_antisymm h5 h6) h4 (srtI_pw ns)
      subst this
      have hs := same_none e hl
      exact q _ _ _ (.new e hl) (fun w => row_new hl) (.lst upd_same ((RpAll.of_ints _).new hs))
  | _ => cases ho
end DL
namespace DL
open PySem PySem.Spec PyProof.Rows L2
theorem kcr_sortT (K : PySem.W.Frag) {X : Cx} (hK : X.K = K := by rfl) : CallR X (.builtin "sorted") (rSortT K) := by
  subst hK
  exact cr_sortT
end DL
namespace DL
open PySem PySem.Spec PyProof.Rows L2
section
variable {X : Cx} {C : Addr} {i0 : Nat} {x f : Str} {pos p pos' : Pos} {e : Expr} {te : TE} {hl : MM (List D)}
theorem dh_fldF (na : NoAttr X.K C f) (he : DF X none e te hl) (hN : X.N[i0]? = some x := by rfl) (hv : Vis X.env.scope x := by first | exact Or.inl rfl | exact Or.inr (Or.inl rfl) | exact Or.inr (Or.inr rfl)) (hd : (x == ("__debug__" : Str)) = false := by decide)
    (hcd : (x == ("__classdict__" : Str)) = false := by decide) (hs : swapsWith e (some (.Attribute (.Name x p) f pos')) pos.line X.env = pure false := by rfl) :
    DH X C i0 (.Assign [.Attribute (.Name x p) f pos'] e pos) (sFld X.K (tVar i0) te f) (hFldO i0 f hl) := dh_fldO na he.pe he.new hN hv hd hcd hs
theorem dh_fldN (na : NoAttr X.K C f) (he : PE X e te ∧ NewF X.K none te hl) (hN : X.N[i0]? = some x := by rfl) (hv : Vis X.env.scope x := by first | exact Or.inl rfl | exact Or.inr (Or.inl rfl) | exact Or.inr (Or.inr rfl)) (hd : (x == ("__debug__" : Str)) = false := by decide)
    (hcd : (x == ("__classdict__" : Str)) = false := by decide) (hs : swapsWith e (some (.Attribute (.Name x p) f pos')) pos.line X.env = pure false := by rfl) :
    DH X C i0 (.Assign [.Attribute (.Name x p) f pos'] e pos) (sFld X.K (tVar i0) te f) (hFldO i0 f hl) := dh_fldO na he.1 he.2 hN hv hd hcd hs
end
end DL
namespace DL
open PySem PySem.Spec PyProof.Rows L2
def maxI : List Int → Option Int
  | [] => none
  | i :: r => some (r.foldl max i)
def minI : List Int → Option Int
  | [] => none
  | i :: r => some (r.foldl min i)
theorem foldl_max : ∀ (r : List Int) (i : Int), (r.foldl max i ∈ i :: r) ∧ ∀ y, y ∈ i :: r → y ≤ r.foldl max i
  | [], i => ⟨List.mem_singleton.mpr rfl, fun y h => by rw [List.mem_singleton.mp h]; exact Int.le_refl _⟩
  | j :: r, i => by
    obtain ⟨h1, h2⟩ := foldl_max r (max i j)
    show (r.foldl max (max i j) ∈ i :: j :: r) ∧ ∀ y, y ∈ i :: j :: r → y ≤ r.foldl max (max i j)
    refine ⟨?_, fun y hy => ?_⟩
    · rcases List.mem_cons.mp h1 with h | h
      · rw [h]
        rcases Int.le_total i j with q | q
        · rw [Int.max_eq_right q]; simp
        · rw [Int.max_eq_left q]; simp
      · exact List.mem_cons_of_mem _ (List.mem_cons_of_mem _ h)
    · have hm := h2 (max i j) (List.mem_cons_self ..)
      rcases List.mem_cons.mp hy with rfl | hy
      · omega
      · rcases List.mem_cons.mp hy with rfl | hy
        · omega
        · exact h2 y (List.mem_cons_of_mem _ hy)
theorem foldl_min : ∀ (r : List Int) (i : Int), (r.foldl min i ∈ i :: r) ∧ ∀ y, y ∈ i :: r → r.foldl min i ≤ y
  | [], i => ⟨List.mem_singleton.mpr rfl, fun y h => by rw [List.mem_singleton.mp h]; exact Int.le_refl _⟩
  | j :: r, i => by
    obtain ⟨h1, h2⟩ := foldl_min r (min i j)
    show (r.foldl min (min i j) ∈ i :: j :: r) ∧ ∀ y, y ∈ i :: j :: r → r.foldl min (min i j) ≤ y
    refine ⟨?_, fun y hy => ?_⟩
    · rcases List.mem_cons.mp h1 with h | h
      · rw [h]
        rcases Int.le_total i j with q | q
        · rw [Int.min_eq_left q]; simp
        · rw [Int.min_eq_right q]; simp
      · exact List.mem_cons_of_mem _ (List.mem_cons_of_mem _ h)
    · have hm := h2 (min i j) (List.mem_cons_self ..)
      rcases List.mem_cons.mp hy with rfl | hy
      · omega
      · rcases List.mem_cons.mp hy with rfl | hy
        · omega
        · exact h2 y (List.mem_cons_of_mem _ hy)
def dMaxL : D → Option D
  | .list ds => (match toInts ds with
    | some ns => (maxI ns).map .int
    | none => none)
  | _ => none
def dMinL : D → Option D
  | .list ds => (match toInts ds with
    | some ns => (minI ns).map .int
    | none => none)
  | _ => none
section
variable {K : PySem.W.Frag} {rc : Rc}
theorem c_maxL : CallS K rc (rMax K) dMaxL := fun Hs H x a d e hx ho Q q => by
  cases a with
  | list ds =>
    simp only [dMaxL] at ho
    cases e1 : toInts ds with
    | none => rw [e1] at ho; cases ho
    | some ns =>
      rw [e1] at ho
      obtain ⟨p, vs, rfl, h1, h2⟩ := hx.lst_inv e
      rw [toInts_eq e1] at h2
      rw [h2.ints] at h1
      cases ns with
      | nil => cases ho
      | cons i r =>
        cases ho
        obtain ⟨m1, m2⟩ := foldl_max r i
        refine ⟨p, i :: r, rfl, SqL.of h1, Nat.zero_lt_succ _, fun m h3 h4 => ?_⟩
        have : m = r.foldl max i := Int.le_antisymm (m2 m h3) (h4 _ m1)
        subst this
        exact q _ Hs H (.refl e) (fun _ w => w) (.int _)
  | _ => cases ho
theorem c_minL : CallS K rc (rMin K) dMinL := fun Hs H x a d e hx ho Q q => by
  cases a with
  | list ds =>
    simp only [dMinL] at ho
    cases e1 : toInts ds with
    | none => rw [e1] at ho; cases ho
    | some ns =>
      rw [e1] at ho
      obtain ⟨p, vs, rfl, h1, h2⟩ := hx.lst_inv e
      rw [toInts_eq e1] at h2
      rw [h2.ints] at h1
      cases ns with
      | nil => cases ho
      | cons i r =>
        cases ho
        obtain ⟨m1, m2⟩ := foldl_min r i
        refine ⟨p, i :: r, rfl, SqL.of h1, Nat.zero_lt_succ _, fun m h3 h4 => ?_⟩
        have : m = r.foldl min i := Int.le_antisymm (h4 _ m1) (m2 m h3)
        subst this
        exact q _ Hs H (.refl e) (fun _ w => w) (.int _)
  | _ => cases ho
end
end DL
namespace DL
open PySem PySem.Spec PyProof.Rows L2
theorem tuple_mul1 (l : Addr) (its : Array Value) (n : Nat) (dd : Option Addr) (sl : Array (Option Value)) (u : Tok) :
    Meets (Builtin.«tuple.__mul__» ⟨[.ref l, .int 1 u], []⟩) (fun _ R s => s.heap.get? l = some { cls := .type "tuple", dict := dd, data := .seq its n, slots := sl } ∧ R (.ok (.ret (.ref l))) s) :=
  .of_wp fun prog w A R s h => by
    obtain ⟨hp, g, d, tk, os⟩ := s
    obtain ⟨hl, h⟩ := h
    have f1 := AutoSeq1.idx_int
    have hT : (⟨hp, g, d, tk, os⟩ : Shared).TypeIs (.ref l) "tuple" := ⟨_, hl, rfl⟩
    wp_walk using wpAny_loadPart' hl
    repeat (first
      | (refine wpAny_ite_false (by decide) ?_; wp_walk using wpAny_loadPart' hl)
      | (refine wpAny_ite_true (by simp) ?_; wp_walk using wpAny_loadPart' hl))
    exact ⟨_, rfl, h⟩
end DL
namespace DL
open PySem PySem.Spec PyProof.Rows L2
def rRepT1 (K : PySem.W.Frag) : R2 := fun x y H Q => ∃ l xs, x = .ref l ∧ y = .int 1 ∧ SqT K H l xs ∧ Q (.ref l) H
theorem op_repT1 {X : Cx} : OpR X (binaryOp .Mult) (rRepT1 X.K) := by
  intro pins s σ H x y v u Q I rx ry h
  obtain ⟨l, xs, rfl, rfl, hT, q⟩ := h
  cases rx
  obtain ⟨t, rfl⟩ := ry
  obtain ⟨its, r, ⟨⟨c, dd, data, sl⟩, ho, hc, n, hd⟩, hs⟩ := I.tuple hT
  simp only at hc hd
  subst hc hd
  refine wpAny_binaryOp_repeat_ref (T := "tuple") (U := "int") (by decide) ⟨_, ho, rfl⟩ (fun s' => typeIs_int s' 1 t) noFill_tuple_mul PySem.F.fills_int_mul PySem.F.slot_int_rmul repeat_tuple PySem.F.slot_int_index.lookup
    (call_meets PySem.F.slot_int_rmul (typeIs_int s 1 t) PySem.F.entry_int_rmul (PySem.F.args_int_rmul_2 _ _) (int_rmul_tuple 1 t l its.toArray n dd sl)
      ⟨ho, rfl, ⟨_, ho, rfl⟩, call_meets PySem.F.slot_tuple_mul ⟨_, ho, rfl⟩ PySem.F.entry_tuple_mul (PySem.F.args_tuple_mul_2 _ _) (tuple_mul1 l its.toArray n dd sl t) ⟨ho, .ref l, H, I, rfl, q⟩⟩)
def rRepT2 (K : PySem.W.Frag) : R2 := fun x y H Q => rRepT K x y H Q ∨ rRepT1 K x y H Q
theorem kop_repT2 (K : PySem.W.Frag) {X : Cx} (hK : X.K = K := by rfl) : OpR X (binaryOp .Mult) (rRepT2 K) := by
  subst hK
  intro pins s σ H x y v u Q I rx ry h
  rcases h with h | h
  · exact op_repT pins s σ H x y v u Q I rx ry h
  · exact op_repT1 pins s σ H x y v u Q I rx ry h
def dRepT2 : D → D → Option D
  | .tuple xs, .int k => if 1 ≤ k ∧ k ≤ 1000 ∧ xs.length ≤ 1000 ∧ xs ≠ [] then some (.tuple (List.replicate k.toNat xs).flatten) else none
  | _, _ => none
theorem s_repT2 {K : PySem.W.Frag} {rc : Rc} : OpS K rc (rRepT2 K) dRepT2 := fun Hs H x y a b d e hx hy ho Q q => by
  cases a <;> cases b <;> try (cases ho)
  rename_i xs k
  simp only [dRepT2] at ho
  by_cases hl : 1 ≤ k ∧ k ≤ 1000 ∧ xs.length ≤ 1000 ∧ xs ≠ []
  · rw [if_pos hl] at ho
    cases ho
    by_cases h2 : 2 ≤ k
    · refine .inl (s_repT Hs H x y _ _ _ e hx hy ?_ Q q)
      simp only [dRepT]
      rw [if_pos ⟨h2, hl.2.1, hl.2.2⟩]
    · have e1 : k = 1 := by omega
      subst e1
      obtain ⟨p, vs, rfl, h1, h2⟩ := hx.tup_inv
      refine .inr ⟨p, vs, rfl, hy.int_inv, seqT_same e h1, q _ Hs H (.refl e) (fun _ w => w) ?_⟩
      have : (List.replicate (Int.toNat 1) xs).flatten = xs := by simp
      rw [this]
      exact hx.tup_rp
  · rw [if_neg hl] at ho; cases ho
end DL


namespace PG
noncomputable section
open PySem PySem.Spec PyProof.Rows L2 DL
def g_is_int : MS := (gRet (mAndV (mUn (dIsi "int") (mVarB 0)) (mNotV (mUn (dIsi "bool") (mVarB 0)))))
def F_is_int : List D → Option D := runP g_is_int 1 1
def fuel_common : Ev → Nat := fun ρ => match ρ.get 1 with | .s (.int j) => j.natAbs + 1 | _ => 0
def g_common : MS := (gSeq (gPar 0 1 (mBind (mUn dAbs (mVarB 0)) fun d => mRet (.s d)) (mBind (mUn dAbs (mVarB 1)) fun d => mRet (.s d)))
    (gSeq (gWhile fuel_common (mTest (mOp dNe (mVarB 1) (mRet (.int 0)))) (gPar 0 1 (mBind (mVar 1) fun d => mRet (.s d)) (mBind (mOp dMod (mVarB 0) (mVarB 1)) fun d => mRet (.s d))))
    (gRet (mVar 0))))
def F_common : List D → Option D := runP g_common 2 2
def g_fraction : MS := (gSeq (gSet 2 (mBind (mCons (mVar 0) (mCons (mVar 1) (mRet []))) fun ds => mO (F_common (ds ++ []))))
    (gSeq (gPar 0 1 (mBind (mOp dDiv (mVarB 0) (mVarB 2)) fun d => mRet (.s d)) (mBind (mOp dDiv (mVarB 1) (mVarB 2)) fun d => mRet (.s d)))
    (gRet (mIf (mTest (mOp dLt (mVarB 1) (mRet (.int 0)))) (mTup (mCons (mUn dNeg (mVarB 0)) (mCons (mUn dNeg (mVarB 1)) (mRet [])))) (mTup (mCons (mVar 0) (mCons (mVar 1) (mRet []))))))))
def F_fraction : List D → Option D := runP g_fraction 2 3
def g_is_fraction : MS := (gSeq (gIf (mOr (mNot (mTest (mUn (dIsi "tuple") (mVarB 0)))) (mOr (mTest (mOp dNe (mUn dLen (mVarB 0)) (mRet (.int 2)))) (mOr (mNot (mTest (mBind (mCons (mOp dIx (mVarB 0) (mRet (.int 0))) (mRet [])) fun ds => mO (F_is_int (ds ++ []))))) (mNot (mTest (mBind (mCons (mOp dIx (mVarB 0) (mRet (.int 1))) (mRet [])) fun ds => mO (F_is_int (ds ++ [])))))))) (gRet (mRet (.bool false))) gSkip)
    (gRet (mAndV (mOp dGt (mOp dIx (mVarB 0) (mRet (.int 1))) (mRet (.int 0))) (mOp dEq (mBind (mCons (mOp dIx (mVarB 0) (mRet (.int 0))) (mCons (mOp dIx (mVarB 0) (mRet (.int 1))) (mRet []))) fun ds => mO (F_common (ds ++ []))) (mRet (.int 1))))))
def F_is_fraction : List D → Option D := runP g_is_fraction 1 1
def g_plus : MS := (gRet (mBind (mCons (mOp dAddI (mOp dMul (mOp dIx (mVarB 0) (mRet (.int 0))) (mOp dIx (mVarB 1) (mRet (.int 1)))) (mOp dMul (mOp dIx (mVarB 1) (mRet (.int 0))) (mOp dIx (mVarB 0) (mRet (.int 1))))) (mCons (mOp dMul (mOp dIx (mVarB 0) (mRet (.int 1))) (mOp dIx (mVarB 1) (mRet (.int 1)))) (mRet []))) fun ds => mO (F_fraction (ds ++ []))))
def F_plus : List D → Option D := runP g_plus 2 2
def g_less : MS := (gRet (mBind (mCons (mOp dSub (mOp dMul (mOp dIx (mVarB 0) (mRet (.int 0))) (mOp dIx (mVarB 1) (mRet (.int 1)))) (mOp dMul (mOp dIx (mVarB 1) (mRet (.int 0))) (mOp dIx (mVarB 0) (mRet (.int 1))))) (mCons (mOp dMul (mOp dIx (mVarB 0) (mRet (.int 1))) (mOp dIx (mVarB 1) (mRet (.int 1)))) (mRet []))) fun ds => mO (F_fraction (ds ++ []))))
def F_less : List D → Option D := runP g_less 2 2
def g_times : MS := (gRet (mBind (mCons (mOp dMul (mOp dIx (mVarB 0) (mRet (.int 0))) (mOp dIx (mVarB 1) (mRet (.int 0)))) (mCons (mOp dMul (mOp dIx (mVarB 0) (mRet (.int 1))) (mOp dIx (mVarB 1) (mRet (.int 1)))) (mRet []))) fun ds => mO (F_fraction (ds ++ []))))
def F_times : List D → Option D := runP g_times 2 2
def g_over : MS := (gRet (mBind (mCons (mOp dMul (mOp dIx (mVarB 0) (mRet (.int 0))) (mOp dIx (mVarB 1) (mRet (.int 1)))) (mCons (mOp dMul (mOp dIx (mVarB 0) (mRet (.int 1))) (mOp dIx (mVarB 1) (mRet (.int 0)))) (mRet []))) fun ds => mO (F_fraction (ds ++ []))))
def F_over : List D → Option D := runP g_over 2 2
def n_added : MM (List D) := (mLc [3, 4] (mZip2 (mVarB 0) (mVarB 1)) (gtTup 2 (gtCons (gtName 3) (gtCons (gtName 4) gtNil))) (mRet true) (mBind (mCons (mVar 3) (mCons (mBind (mCons (mVar 2) (mCons (mVar 4) (mRet []))) fun ds => mO (F_times (ds ++ []))) (mRet []))) fun ds => mO (F_plus (ds ++ []))))
def g_added : MS := (gRet (mBind (mLc [3, 4] (mZip2 (mVarB 0) (mVarB 1)) (gtTup 2 (gtCons (gtName 3) (gtCons (gtName 4) gtNil))) (mRet true) (mBind (mCons (mVar 3) (mCons (mBind (mCons (mVar 2) (mCons (mVar 4) (mRet []))) fun ds => mO (F_times (ds ++ []))) (mRet []))) fun ds => mO (F_plus (ds ++ [])))) fun ds => mRet (.list ds)))
def F_added : List D → Option D := runP g_added 3 5
def g_inner : MS := (gSeq (gSet 2 (mRet (.tuple [.int 0, .int 1])))
    (gSeq (gFor (mZip2 (mVarS 0) (mVarS 1)) (gtTup 2 (gtCons (gtName 3) (gtCons (gtName 4) gtNil))) (gSet 2 (mBind (mCons (mVar 2) (mCons (mBind (mCons (mTup (mCons (mVar 3) (mCons (mRet (.int 1)) (mRet [])))) (mCons (mVar 4) (mRet []))) fun ds => mO (F_times (ds ++ []))) (mRet []))) fun ds => mO (F_plus (ds ++ [])))))
    (gRet (mVar 2))))
def F_inner : List D → Option D := runP g_inner 2 5
def g_solved : MS := (gSeq (gSet 2 (mUn dLen (mVarB 0)))
    (gSeq (gSetO 3 (mLc [4, 9] (mEnum (mVarB 0)) (gtTup 2 (gtCons (gtName 4) (gtCons (gtName 9) gtNil))) (mRet true) (mBind (mLst (mStar (mVarB 9) (mStar (mBind (mLc [10] (mItems (mVarB 1)) (gtName 10) (mRet true) (mOp dIx (mVarB 10) (mVarB 4))) fun ds => mRet (.list ds)) (mRet [])))) fun ds => mRet (.list ds))))
    (gSeq (gFor (mRange1 (mVar 2)) (gtName 4) (gSeq (gSet 5 (mBind (mLc [7] (mRange2 (mVar 4) (mVar 2)) (gtName 7) (mTest (mOp dNe (mOp dIx (mOp dIx (mOp dIx (mVarB 3) (mVarB 7)) (mVarB 4)) (mRet (.int 0))) (mRet (.int 0)))) (mVar 7)) fun ds => mRet (.list ds)))
    (gSeq (gIf (mTest (mOp dEq (mVarB 5) (mBind (mLst (mRet [])) fun ds => mRet (.list ds)))) (gRet (mRet .none)) gSkip)
    (gSeq (gAsg (mTup (mCons (mOp dIx (mVarB 3) (mOp dIx (mVarB 5) (mRet (.int 0)))) (mCons (mOp dIx (mVarB 3) (mVarB 4)) (mRet [])))) (gtTup 2 (gtCons (gtSub 3 (mVar 4)) (gtCons (gtSub 3 (mOp dIx (mVarB 5) (mRet (.int 0)))) gtNil))))
    (gSeq (gSet 6 (mOp dIx (mOp dIx (mVarB 3) (mVarB 4)) (mVarB 4)))
    (gSeq (gAsg (mBind (mLc [11] (mItems (mOp dIx (mVarB 3) (mVarB 4))) (gtName 11) (mRet true) (mBind (mCons (mVar 11) (mCons (mVar 6) (mRet []))) fun ds => mO (F_over (ds ++ [])))) fun ds => mRet (.list ds)) (gtSub 3 (mVar 4)))
    (gFor (mRange1 (mVar 2)) (gtName 7) (gIf (mAnd (mTest (mOp dNe (mVarB 7) (mVarB 4))) (mTest (mOp dNe (mOp dIx (mOp dIx (mOp dIx (mVarB 3) (mVarB 7)) (mVarB 4)) (mRet (.int 0))) (mRet (.int 0))))) (gSeq (gSet 8 (mTup (mCons (mUn dNeg (mOp dIx (mOp dIx (mOp dIx (mVarB 3) (mVarB 7)) (mVarB 4)) (mRet (.int 0)))) (mCons (mOp dIx (mOp dIx (mOp dIx (mVarB 3) (mVarB 7)) (mVarB 4)) (mRet (.int 1))) (mRet [])))))
    (gAsg (mBind (mCons (mOp dIx (mVarB 3) (mVarB 7)) (mCons (mOp dIx (mVarB 3) (mVarB 4)) (mCons (mVar 8) (mRet [])))) fun ds => mO (F_added (ds ++ []))) (gtSub 3 (mVar 7)))) gSkip))))))))
    (gRet (mBind (mLc [7] (mRange1 (mUn dLen (mVarB 1))) (gtName 7) (mRet true) (mBind (mLc [12] (mItems (mVarB 3)) (gtName 12) (mRet true) (mOp dIx (mVarB 12) (mOp dAddI (mVarB 2) (mVarB 7)))) fun ds => mRet (.list ds))) fun ds => mRet (.list ds))))))
def F_solved : List D → Option D := runP g_solved 2 13
def g_is_above : MS := (gSeq (gSetO 1 (mLc [5] (mItems (mVarB 0)) (gtName 5) (mRet true) (mBind (mLc [6] (mItems (mVarB 5)) (gtName 6) (mRet true) (mTup (mCons (mVar 6) (mCons (mRet (.int 1)) (mRet []))))) fun ds => mRet (.list ds))))
    (gSeq (gFor (mRange1 (mUn dLen (mVarB 1))) (gtName 2) (gSeq (gIf (mTest (mOp dLe (mOp dIx (mOp dIx (mOp dIx (mVarB 1) (mVarB 2)) (mVarB 2)) (mRet (.int 0))) (mRet (.int 0)))) (gRet (mRet (.bool false))) gSkip)
    (gFor (mRange2 (mOp dAddI (mVarB 2) (mRet (.int 1))) (mUn dLen (mVarB 1))) (gtName 3) (gSeq (gSet 4 (mBind (mCons (mOp dIx (mOp dIx (mVarB 1) (mVarB 3)) (mVarB 2)) (mCons (mOp dIx (mOp dIx (mVarB 1) (mVarB 2)) (mVarB 2)) (mRet []))) fun ds => mO (F_over (ds ++ []))))
    (gAsg (mBind (mCons (mOp dIx (mVarB 1) (mVarB 3)) (mCons (mOp dIx (mVarB 1) (mVarB 2)) (mCons (mTup (mCons (mUn dNeg (mOp dIx (mVarB 4) (mRet (.int 0)))) (mCons (mOp dIx (mVarB 4) (mRet (.int 1))) (mRet [])))) (mRet [])))) fun ds => mO (F_added (ds ++ []))) (gtSub 1 (mVar 3)))))))
    (gRet (mRet (.bool true)))))
def F_is_above : List D → Option D := runP g_is_above 1 7
def g_is_small : MS := (gRet (mAndV (mBind (mCons (mVar 0) (mRet [])) fun ds => mO (F_is_int (ds ++ []))) (mChain dLe dLe (mUn dNeg (mRet (.int 1000))) (mVarB 0) (mRet (.int 1000)))))
def F_is_small : List D → Option D := runP g_is_small 1 1
def g_is_row : MS := (gRet (mAndV (mUn (dIsi "tuple") (mVarB 0)) (mAndV (mOp dEq (mUn dLen (mVarB 0)) (mVarB 1)) (mUn dAll (mBind (mLc [2] (mItems (mVarB 0)) (gtName 2) (mRet true) (mBind (mCons (mVar 2) (mRet [])) fun ds => mO (F_is_small (ds ++ [])))) fun ds => mRet (.list ds))))))
def F_is_row : List D → Option D := runP g_is_row 2 3
def g_is_turned : MS := (gRet (mOp dEq (mVarB 0) (mUn dTupOf (mBind (mLc [1] (mRange1 (mUn dLen (mVarB 0))) (gtName 1) (mRet true) (mUn dTupOf (mBind (mLc [2] (mItems (mVarB 0)) (gtName 2) (mRet true) (mOp dIx (mVarB 2) (mVarB 1))) fun ds => mRet (.list ds)))) fun ds => mRet (.list ds)))))
def F_is_turned : List D → Option D := runP g_is_turned 1 3
def g_is_task_row : MS := (gSeq (gIf (mOr (mNot (mTest (mUn (dIsi "tuple") (mVarB 0)))) (mTest (mOp dNe (mUn dLen (mVarB 0)) (mRet (.int 3))))) (gRet (mRet (.bool false))) gSkip)
    (gRet (mAndV (mBind (mCons (mOp dIx (mVarB 0) (mRet (.int 0))) (mCons (mVar 1) (mRet []))) fun ds => mO (F_is_row (ds ++ []))) (mAndV (mBind (mCons (mOp dIx (mVarB 0) (mRet (.int 1))) (mRet [])) fun ds => mO (F_is_small (ds ++ []))) (mBind (mCons (mOp dIx (mVarB 0) (mRet (.int 2))) (mRet [])) fun ds => mO (F_is_small (ds ++ [])))))))
def F_is_task_row : List D → Option D := runP g_is_task_row 2 2
def g_need_task : MS := (gSeq (gIf (mOr (mNot (mTest (mUn (dIsi "tuple") (mVarB 0)))) (mTest (mOp dNe (mUn dLen (mVarB 0)) (mRet (.int 4))))) gNone gSkip)
    (gSeq (gAsg (mVar 0) (gtTup 4 (gtCons (gtName 1) (gtCons (gtName 2) (gtCons (gtName 3) (gtCons (gtName 4) gtNil))))))
    (gSeq (gIf (mOr (mNot (mTest (mUn (dIsi "tuple") (mVarB 1)))) (mNot (mTest (mChain dLe dLe (mRet (.int 1)) (mUn dLen (mVarB 1)) (mRet (.int 4)))))) gNone gSkip)
    (gSeq (gSet 5 (mUn dLen (mVarB 1)))
    (gSeq (gIf (mOr (mNot (mTest (mUn dAll (mBind (mLc [6] (mItems (mVarB 1)) (gtName 6) (mRet true) (mBind (mCons (mVar 6) (mCons (mVar 5) (mRet []))) fun ds => mO (F_is_row (ds ++ [])))) fun ds => mRet (.list ds))))) (mOr (mNot (mTest (mBind (mCons (mVar 1) (mRet [])) fun ds => mO (F_is_turned (ds ++ []))))) (mNot (mTest (mBind (mCons (mVar 1) (mRet [])) fun ds => mO (F_is_above (ds ++ []))))))) gNone gSkip)
    (gSeq (gIf (mNot (mTest (mBind (mCons (mVar 2) (mCons (mVar 5) (mRet []))) fun ds => mO (F_is_row (ds ++ []))))) gNone gSkip)
    (gSeq (gIf (mNot (mTest (mBind (mCons (mVar 3) (mCons (mVar 5) (mRet []))) fun ds => mO (F_is_row (ds ++ []))))) gNone gSkip)
    (gIf (mOr (mNot (mTest (mUn (dIsi "tuple") (mVarB 4)))) (mOr (mTest (mOp dGt (mUn dLen (mVarB 4)) (mRet (.int 8)))) (mNot (mTest (mUn dAll (mBind (mLc [6] (mItems (mVarB 4)) (gtName 6) (mRet true) (mBind (mCons (mVar 6) (mCons (mVar 5) (mRet []))) fun ds => mO (F_is_task_row (ds ++ [])))) fun ds => mRet (.list ds))))))) gNone gSkip))))))))
def F_need_task : List D → Option D := runP g_need_task 1 7
def g_need_share : MS := (gIf (mNot (mTest (mBind (mCons (mVar 0) (mRet [])) fun ds => mO (F_is_fraction (ds ++ []))))) gNone gSkip)
def F_need_share : List D → Option D := runP g_need_share 1 1
def g_need_plan : MS := (gIf (mOr (mNot (mTest (mUn (dIsi "tuple") (mVarB 0)))) (mOr (mTest (mOp dNe (mUn dLen (mVarB 0)) (mVarB 1))) (mNot (mTest (mUn dAll (mBind (mLc [2] (mItems (mVarB 0)) (gtName 2) (mRet true) (mBind (mCons (mVar 2) (mRet [])) fun ds => mO (F_is_fraction (ds ++ [])))) fun ds => mRet (.list ds))))))) gNone gSkip)
def F_need_plan : List D → Option D := runP g_need_plan 2 3
def g_costs_at : MS := (gRet (mBind (mLc [2, 3] (mZip2 (mOp dIx (mVarB 0) (mRet (.int 1))) (mOp dIx (mVarB 0) (mRet (.int 2)))) (gtTup 2 (gtCons (gtName 2) (gtCons (gtName 3) gtNil))) (mRet true) (mBind (mCons (mTup (mCons (mVar 2) (mCons (mRet (.int 1)) (mRet [])))) (mCons (mBind (mCons (mTup (mCons (mVar 3) (mCons (mRet (.int 1)) (mRet [])))) (mCons (mVar 1) (mRet []))) fun ds => mO (F_times (ds ++ []))) (mRet []))) fun ds => mO (F_plus (ds ++ [])))) fun ds => mRet (.list ds)))
def F_costs_at : List D → Option D := runP g_costs_at 2 4
def g_rights_at : MS := (gRet (mBind (mLc [2] (mItems (mOp dIx (mVarB 0) (mRet (.int 3)))) (gtName 2) (mRet true) (mBind (mCons (mTup (mCons (mOp dIx (mVarB 2) (mRet (.int 1))) (mCons (mRet (.int 1)) (mRet [])))) (mCons (mBind (mCons (mTup (mCons (mOp dIx (mVarB 2) (mRet (.int 2))) (mCons (mRet (.int 1)) (mRet [])))) (mCons (mVar 1) (mRet []))) fun ds => mO (F_times (ds ++ []))) (mRet []))) fun ds => mO (F_plus (ds ++ [])))) fun ds => mRet (.list ds)))
def F_rights_at : List D → Option D := runP g_rights_at 2 3
def g_slope_of : MS := (gRet (mBind (mCons (mBind (mLc [3] (mItems (mOp dIx (mVarB 0) (mRet (.int 0)))) (gtName 3) (mRet true) (mBind (mCons (mVar 3) (mCons (mVar 2) (mRet []))) fun ds => mO (F_inner (ds ++ [])))) fun ds => mRet (.list ds)) (mCons (mBind (mCons (mVar 0) (mCons (mVar 1) (mRet []))) fun ds => mO (F_costs_at (ds ++ []))) (mRet []))) fun ds => mO (F_added (ds ++ [(.tuple [.int 1, .int 1])]))))
def F_slope_of : List D → Option D := runP g_slope_of 3 4
def g_worth_of : MS := (gSeq (gSet 3 (mRet (.tuple [.int 0, .int 1])))
    (gSeq (gFor (mZip3 (mVarS 2) (mOp dIx (mVarB 0) (mRet (.int 0))) (mBind (mCons (mVar 0) (mCons (mVar 1) (mRet []))) fun ds => mO (F_costs_at (ds ++ [])))) (gtTup 3 (gtCons (gtName 4) (gtCons (gtName 5) (gtCons (gtName 6) gtNil)))) (gSet 3 (mBind (mCons (mVar 3) (mCons (mBind (mCons (mVar 4) (mCons (mBind (mCons (mBind (mCons (mBind (mCons (mVar 5) (mCons (mVar 2) (mRet []))) fun ds => mO (F_inner (ds ++ []))) (mCons (mTup (mCons (mRet (.int 2)) (mCons (mRet (.int 1)) (mRet [])))) (mRet []))) fun ds => mO (F_over (ds ++ []))) (mCons (mVar 6) (mRet []))) fun ds => mO (F_plus (ds ++ []))) (mRet []))) fun ds => mO (F_times (ds ++ []))) (mRet []))) fun ds => mO (F_plus (ds ++ [])))))
    (gRet (mVar 3))))
def F_worth_of : List D → Option D := runP g_worth_of 3 7
def g_gaps_of : MS := (gRet (mBind (mLc [3, 4] (mZip2 (mOp dIx (mVarB 0) (mRet (.int 3))) (mBind (mCons (mVar 0) (mCons (mVar 1) (mRet []))) fun ds => mO (F_rights_at (ds ++ [])))) (gtTup 2 (gtCons (gtName 3) (gtCons (gtName 4) gtNil))) (mRet true) (mBind (mCons (mBind (mCons (mOp dIx (mVarB 3) (mRet (.int 0))) (mCons (mVar 2) (mRet []))) fun ds => mO (F_inner (ds ++ []))) (mCons (mVar 4) (mRet []))) fun ds => mO (F_less (ds ++ [])))) fun ds => mRet (.list ds)))
def F_gaps_of : List D → Option D := runP g_gaps_of 3 5
def g_keeps : MS := (gRet (mUn dAll (mBind (mLc [3] (mItems (mBind (mCons (mVar 0) (mCons (mVar 1) (mCons (mVar 2) (mRet [])))) fun ds => mO (F_gaps_of (ds ++ [])))) (gtName 3) (mRet true) (mOp dGe (mOp dIx (mVarB 3) (mRet (.int 0))) (mRet (.int 0)))) fun ds => mRet (.list ds))))
def F_keeps : List D → Option D := runP g_keeps 3 4
def g_sum_of_rows : MS := (gSeq (gSet 2 (mBind (mOpF dRep (mBind (mLst (mCons (mRet (.tuple [.int 0, .int 1])) (mRet []))) fun ds => mRet (.list ds)) (mUn dLen (mOp dIx (mVarB 0) (mRet (.int 0))))) fun ds => mRet (.list ds)))
    (gSeq (gFor (mZip2 (mOp dIx (mVarB 0) (mRet (.int 3))) (mVarS 1)) (gtTup 2 (gtCons (gtName 3) (gtCons (gtName 4) gtNil))) (gSet 2 (mBind (mCons (mVar 2) (mCons (mBind (mLc [5] (mItems (mOp dIx (mVarB 3) (mRet (.int 0)))) (gtName 5) (mRet true) (mTup (mCons (mVar 5) (mCons (mRet (.int 1)) (mRet []))))) fun ds => mRet (.list ds)) (mCons (mVar 4) (mRet [])))) fun ds => mO (F_added (ds ++ [])))))
    (gRet (mVar 2))))
def F_sum_of_rows : List D → Option D := runP g_sum_of_rows 2 6
def g_shows_of : MS := (gSeq (gSet 4 (mBind (mCons (mVar 0) (mCons (mVar 1) (mCons (mVar 2) (mRet [])))) fun ds => mO (F_gaps_of (ds ++ []))))
    (gSeq (gFor (mZip2 (mVarS 4) (mVarS 3)) (gtTup 2 (gtCons (gtName 5) (gtCons (gtName 6) gtNil))) (gIf (mOr (mTest (mOp dLt (mOp dIx (mVarB 5) (mRet (.int 0))) (mRet (.int 0)))) (mOr (mTest (mOp dLt (mOp dIx (mVarB 6) (mRet (.int 0))) (mRet (.int 0)))) (mAnd (mTest (mOp dGt (mOp dIx (mVarB 6) (mRet (.int 0))) (mRet (.int 0)))) (mTest (mOp dGt (mOp dIx (mVarB 5) (mRet (.int 0))) (mRet (.int 0))))))) (gRet (mRet (.bool false))) gSkip))
    (gRet (mOp dEq (mBind (mCons (mVar 0) (mCons (mVar 1) (mCons (mVar 2) (mRet [])))) fun ds => mO (F_slope_of (ds ++ []))) (mBind (mCons (mVar 0) (mCons (mVar 3) (mRet []))) fun ds => mO (F_sum_of_rows (ds ++ [])))))))
def F_shows_of : List D → Option D := runP g_shows_of 4 7
def g_promise_of : MS := (gSeq (gSet 3 (mBind (mCons (mBind (mCons (mVar 0) (mCons (mVar 2) (mRet []))) fun ds => mO (F_sum_of_rows (ds ++ []))) (mCons (mBind (mCons (mVar 0) (mCons (mVar 1) (mRet []))) fun ds => mO (F_costs_at (ds ++ []))) (mCons (mTup (mCons (mUn dNeg (mRet (.int 1))) (mCons (mRet (.int 1)) (mRet [])))) (mRet [])))) fun ds => mO (F_added (ds ++ []))))
    (gSeq (gSet 4 (mOp dIx (mBind (mCons (mBind (mLc [10] (mItems (mOp dIx (mVarB 0) (mRet (.int 0)))) (gtName 10) (mRet true) (mBind (mLc [6] (mItems (mVarB 10)) (gtName 6) (mRet true) (mTup (mCons (mVar 6) (mCons (mRet (.int 1)) (mRet []))))) fun ds => mRet (.list ds))) fun ds => mRet (.list ds)) (mCons (mBind (mLst (mCons (mVar 3) (mRet []))) fun ds => mRet (.list ds)) (mRet []))) fun ds => mO (F_solved (ds ++ []))) (mRet (.int 0))))
    (gSeq (gSet 5 (mRet (.tuple [.int 0, .int 1])))
    (gSeq (gFor (mZip2 (mVarS 3) (mVarS 4)) (gtTup 2 (gtCons (gtName 6) (gtCons (gtName 7) gtNil))) (gSet 5 (mBind (mCons (mVar 5) (mCons (mBind (mCons (mBind (mCons (mVar 6) (mCons (mVar 7) (mRet []))) fun ds => mO (F_times (ds ++ []))) (mCons (mTup (mCons (mRet (.int 2)) (mCons (mRet (.int 1)) (mRet [])))) (mRet []))) fun ds => mO (F_over (ds ++ []))) (mRet []))) fun ds => mO (F_less (ds ++ [])))))
    (gSeq (gFor (mZip2 (mBind (mCons (mVar 0) (mCons (mVar 1) (mRet []))) fun ds => mO (F_rights_at (ds ++ []))) (mVarS 2)) (gtTup 2 (gtCons (gtName 8) (gtCons (gtName 9) gtNil))) (gSet 5 (mBind (mCons (mVar 5) (mCons (mBind (mCons (mVar 8) (mCons (mVar 9) (mRet []))) fun ds => mO (F_times (ds ++ []))) (mRet []))) fun ds => mO (F_plus (ds ++ [])))))
    (gRet (mVar 5)))))))
def F_promise_of : List D → Option D := runP g_promise_of 3 11
def g_need_both : MS := (gSeq (gDrop (mBind (mCons (mVar 0) (mRet [])) fun ds => mO (F_need_task (ds ++ []))))
    (gDrop (mBind (mCons (mVar 1) (mRet [])) fun ds => mO (F_need_share (ds ++ [])))))
def F_need_both : List D → Option D := runP g_need_both 2 2
def g_worth : MS := (gSeq (gDrop (mBind (mCons (mVar 0) (mCons (mVar 1) (mRet []))) fun ds => mO (F_need_both (ds ++ []))))
    (gSeq (gDrop (mBind (mCons (mVar 2) (mCons (mUn dLen (mOp dIx (mVarB 0) (mRet (.int 0)))) (mRet []))) fun ds => mO (F_need_plan (ds ++ []))))
    (gRet (mBind (mCons (mVar 0) (mCons (mVar 1) (mCons (mVar 2) (mRet [])))) fun ds => mO (F_worth_of (ds ++ []))))))
def F_worth : List D → Option D := runP g_worth 3 3
def g_is_kept : MS := (gSeq (gDrop (mBind (mCons (mVar 0) (mCons (mVar 1) (mRet []))) fun ds => mO (F_need_both (ds ++ []))))
    (gSeq (gDrop (mBind (mCons (mVar 2) (mCons (mUn dLen (mOp dIx (mVarB 0) (mRet (.int 0)))) (mRet []))) fun ds => mO (F_need_plan (ds ++ []))))
    (gRet (mBind (mCons (mVar 0) (mCons (mVar 1) (mCons (mVar 2) (mRet [])))) fun ds => mO (F_keeps (ds ++ []))))))
def F_is_kept : List D → Option D := runP g_is_kept 3 3
def g_shows : MS := (gSeq (gDrop (mBind (mCons (mVar 0) (mCons (mVar 1) (mRet []))) fun ds => mO (F_need_both (ds ++ []))))
    (gSeq (gDrop (mBind (mCons (mVar 2) (mCons (mUn dLen (mOp dIx (mVarB 0) (mRet (.int 0)))) (mRet []))) fun ds => mO (F_need_plan (ds ++ []))))
    (gSeq (gDrop (mBind (mCons (mVar 3) (mCons (mUn dLen (mOp dIx (mVarB 0) (mRet (.int 3)))) (mRet []))) fun ds => mO (F_need_plan (ds ++ []))))
    (gRet (mBind (mCons (mVar 0) (mCons (mVar 1) (mCons (mVar 2) (mCons (mVar 3) (mRet []))))) fun ds => mO (F_shows_of (ds ++ [])))))))
def F_shows : List D → Option D := runP g_shows 4 4
def g_promise : MS := (gSeq (gDrop (mBind (mCons (mVar 0) (mCons (mVar 1) (mRet []))) fun ds => mO (F_need_both (ds ++ []))))
    (gSeq (gDrop (mBind (mCons (mVar 2) (mCons (mUn dLen (mOp dIx (mVarB 0) (mRet (.int 3)))) (mRet []))) fun ds => mO (F_need_plan (ds ++ []))))
    (gSeq (gIf (mTest (mUn dAny (mBind (mLc [3] (mItems (mVarB 2)) (gtName 3) (mRet true) (mOp dLt (mOp dIx (mVarB 3) (mRet (.int 0))) (mRet (.int 0)))) fun ds => mRet (.list ds)))) (gRet (mRet .none)) gSkip)
    (gRet (mBind (mCons (mVar 0) (mCons (mVar 1) (mCons (mVar 2) (mRet [])))) fun ds => mO (F_promise_of (ds ++ [])))))))
def F_promise : List D → Option D := runP g_promise 3 4
def g_bars : MS := (gSeq (gDrop (mBind (mCons (mVar 0) (mCons (mVar 1) (mRet []))) fun ds => mO (F_need_both (ds ++ []))))
    (gSeq (gDrop (mBind (mCons (mVar 2) (mCons (mUn dLen (mOp dIx (mVarB 0) (mRet (.int 3)))) (mRet []))) fun ds => mO (F_need_plan (ds ++ []))))
    (gSeq (gIf (mOr (mTest (mUn dAny (mBind (mLc [6] (mItems (mVarB 2)) (gtName 6) (mRet true) (mOp dLt (mOp dIx (mVarB 6) (mRet (.int 0))) (mRet (.int 0)))) fun ds => mRet (.list ds)))) (mTest (mUn dAny (mBind (mLc [6] (mItems (mBind (mCons (mVar 0) (mCons (mVar 2) (mRet []))) fun ds => mO (F_sum_of_rows (ds ++ [])))) (gtName 6) (mRet true) (mOp dNe (mOp dIx (mVarB 6) (mRet (.int 0))) (mRet (.int 0)))) fun ds => mRet (.list ds))))) (gRet (mRet (.bool false))) gSkip)
    (gSeq (gSet 3 (mRet (.tuple [.int 0, .int 1])))
    (gSeq (gFor (mZip2 (mBind (mCons (mVar 0) (mCons (mVar 1) (mRet []))) fun ds => mO (F_rights_at (ds ++ []))) (mVarS 2)) (gtTup 2 (gtCons (gtName 4) (gtCons (gtName 5) gtNil))) (gSet 3 (mBind (mCons (mVar 3) (mCons (mBind (mCons (mVar 4) (mCons (mVar 5) (mRet []))) fun ds => mO (F_times (ds ++ []))) (mRet []))) fun ds => mO (F_plus (ds ++ [])))))
    (gRet (mOp dGt (mOp dIx (mVarB 3) (mRet (.int 0))) (mRet (.int 0)))))))))
def F_bars : List D → Option D := runP g_bars 3 7
def g_law_taken : MS := (gSeq (gIf (mTest (mOp dGt (mRowI 0 3) (mRet (.int 0)))) (gSeq (gSet 2 (mOp dMod (mUn dInt (mRowI 0 3)) (mVarB 1)))
    (gSeq (gRowSet 0 3 (mOp dDiv (mRowI 0 3) (mVarB 1)))
    (gRet (mVar 2)))) gSkip)
    (gSeq (gRowSet 0 1 (mOp dAddI (mRowI 0 1) (mRet (.int 1))))
    (gSeq (gIf (mTest (mOp dGt (mRowI 0 1) (mRowLen 0))) (gSeq (gRowSet 0 2 (mOp dMod (mUn dInt (mOp dAddI (mOp dMul (mRowI 0 2) (mRet (.int 48271))) (mRet (.int 11)))) (mRet (.int 2147483647))))
    (gRet (mOp dMod (mUn dInt (mOp dDiv (mRowI 0 2) (mRet (.int 7)))) (mVarB 1)))) gSkip)
    (gSeq (gSet 3 (mRowCell 0 (mOp dSub (mRowI 0 1) (mRet (.int 1)))))
    (gSeq (gRowSet 0 2 (mOp dMod (mUn dInt (mOp dAddI (mOp dAddI (mOp dMul (mRowI 0 2) (mRet (.int 48271))) (mVarB 3)) (mRet (.int 11)))) (mRet (.int 2147483647))))
    (gSeq (gIf (mTest (mOp dGe (mVarB 3) (mOp dPow (mRet (.int 10)) (mRet (.int 18))))) (gRowSet 0 3 (mOp dDiv (mVarB 3) (mVarB 1))) gSkip)
    (gRet (mOp dMod (mUn dInt (mVarB 3)) (mVarB 1)))))))))
def F_law_taken : List Sl → DL.Row → Option (D × DL.Row) := runDef g_law_taken 2 4
def g_law_alike (F_law_alike : List D → Option D) : MS := (gSeq (gIf (mTest (mUn dIsiTL (mVarB 1))) (gSeq (gIf (mOr (mNot (mTest (mUn dIsiTL (mVarB 0)))) (mTest (mOp dNe (mUn (dIsi "list") (mVarB 0)) (mUn (dIsi "list") (mVarB 1))))) (gRet (mRet (.bool false))) gSkip)
    (gSeq (gIf (mTest (mOp dNe (mUn dLen (mVarB 0)) (mUn dLen (mVarB 1)))) (gRet (mRet (.bool false))) gSkip)
    (gRet (mOp dEq (mBind (mLc [2] (mRange1 (mUn dLen (mVarB 1))) (gtName 2) (mNot (mTest (mBind (mCons (mOp dIx (mVarB 0) (mVarB 2)) (mCons (mOp dIx (mVarB 1) (mVarB 2)) (mRet []))) fun ds => mO (F_law_alike (ds ++ []))))) (mVar 2)) fun ds => mRet (.list ds)) (mBind (mLst (mRet [])) fun ds => mRet (.list ds)))))) gSkip)
    (gSeq (gIf (mOr (mTest (mUn (fun d => some (.bool (dIsN d))) (mVarB 1))) (mTest (mUn (dIsi "str") (mVarB 1)))) (gRet (mAndV (mOp dEq (mVarB 0) (mVarB 1)) (mOp dEq (mUn (dIsi "str") (mVarB 0)) (mUn (dIsi "str") (mVarB 1))))) gSkip)
    (gRet (mAndV (mUn (dIsi "int") (mVarB 0)) (mAndV (mOp dEq (mUn (dIsi "bool") (mVarB 0)) (mUn (dIsi "bool") (mVarB 1))) (mOp dEq (mVarB 0) (mVarB 1)))))))
def F_law_alike_ : Nat → List D → Option D
  | 0 => fun _ => none
  | k + 1 => runP (g_law_alike (F_law_alike_ k)) 2 3
def F_law_alike : List D → Option D := F_law_alike_ 8
def g_law_is : MS := (gRet (mAndV (mUn (dIsi "bool") (mVarB 0)) (mOp dEq (mVarB 0) (mVarB 1))))
def F_law_is : List D → Option D := runP g_law_is 2 2
def fuel_law_fr : Ev → Nat := fun ρ => match ρ.get 3 with | .s (.int j) => j.natAbs + 1 | _ => 0
def g_law_fr : MS := (gSeq (gPar 2 3 (mBind (mOp dMax2 (mVarB 0) (mOp dSub (mRet (.int 0)) (mVarB 0))) fun d => mRet (.s d)) (mBind (mOp dMax2 (mVarB 1) (mOp dSub (mRet (.int 0)) (mVarB 1))) fun d => mRet (.s d)))
    (gSeq (gWhile fuel_law_fr (mTest (mOp dNe (mVarB 3) (mRet (.int 0)))) (gPar 2 3 (mBind (mVar 3) fun d => mRet (.s d)) (mBind (mOp dMod (mVarB 2) (mVarB 3)) fun d => mRet (.s d))))
    (gSeq (gSet 2 (mIf (mTest (mOp dGt (mVarB 1) (mRet (.int 0)))) (mVar 2) (mOp dSub (mRet (.int 0)) (mVarB 2))))
    (gRet (mTup (mCons (mOp dDiv (mVarB 0) (mVarB 2)) (mCons (mOp dDiv (mVarB 1) (mVarB 2)) (mRet []))))))))
def F_law_fr : List D → Option D := runP g_law_fr 2 4
def g_law_plus : MS := (gRet (mBind (mCons (mOp dAddI (mOp dMul (mOp dIx (mVarB 0) (mRet (.int 0))) (mOp dIx (mVarB 1) (mRet (.int 1)))) (mOp dMul (mOp dIx (mVarB 1) (mRet (.int 0))) (mOp dIx (mVarB 0) (mRet (.int 1))))) (mCons (mOp dMul (mOp dIx (mVarB 0) (mRet (.int 1))) (mOp dIx (mVarB 1) (mRet (.int 1)))) (mRet []))) fun ds => mO (F_law_fr (ds ++ []))))
def F_law_plus : List D → Option D := runP g_law_plus 2 2
def g_law_times : MS := (gRet (mBind (mCons (mOp dMul (mOp dIx (mVarB 0) (mRet (.int 0))) (mOp dIx (mVarB 1) (mRet (.int 0)))) (mCons (mOp dMul (mOp dIx (mVarB 0) (mRet (.int 1))) (mOp dIx (mVarB 1) (mRet (.int 1)))) (mRet []))) fun ds => mO (F_law_fr (ds ++ []))))
def F_law_times : List D → Option D := runP g_law_times 2 2
def g_law_below : MS := (gRet (mOp dLt (mOp dMul (mOp dIx (mVarB 0) (mRet (.int 0))) (mOp dIx (mVarB 1) (mRet (.int 1)))) (mOp dMul (mOp dIx (mVarB 1) (mRet (.int 0))) (mOp dIx (mVarB 0) (mRet (.int 1))))))
def F_law_below : List D → Option D := runP g_law_below 2 2
def g_law_number : MS := (gRet (mOp dSub (mCallG F_law_taken (mConsRow 0 (mConsS (mOp dAddI (mOp dMul (mRet (.int 2)) (mVarB 1)) (mRet (.int 1))) (mRet [])))) (mVarB 1)))
def F_law_number : List Sl → DL.Row → Option (D × DL.Row) := runDef g_law_number 2 2
def g_law_solved : MS := (gSeq (gSet 2 (mUn dLen (mVarB 0)))
    (gSeq (gSetO 3 (mLc [4] (mRange1 (mVar 2)) (gtName 4) (mRet true) (mBind (mLc [9] (mItems (mBind (mOpF dCat (mBind (mBind (mOp dIx (mVarB 0) (mVarB 4)) fun d => mO (dItems d)) fun ds => mRet (.list ds)) (mBind (mLst (mCons (mOp dIx (mVarB 1) (mVarB 4)) (mRet []))) fun ds => mRet (.list ds))) fun ds => mRet (.list ds))) (gtName 9) (mRet true) (mTup (mCons (mVar 9) (mCons (mRet (.int 1)) (mRet []))))) fun ds => mRet (.list ds))))
    (gSeq (gFor (mRange1 (mVar 2)) (gtName 4) (gSeq (gSet 5 (mBind (mLc [7] (mRange2 (mVar 4) (mVar 2)) (gtName 7) (mTest (mOp dNe (mOp dIx (mOp dIx (mOp dIx (mVarB 3) (mVarB 7)) (mVarB 4)) (mRet (.int 0))) (mRet (.int 0)))) (mVar 7)) fun ds => mRet (.list ds)))
    (gSeq (gIf (mTest (mOp dEq (mVarB 5) (mBind (mLst (mRet [])) fun ds => mRet (.list ds)))) (gRet (mRet .none)) gSkip)
    (gSeq (gSet 6 (mOp dIx (mVarB 3) (mOp dIx (mVarB 5) (mRet (.int 0)))))
    (gSeq (gAsg (mOp dIx (mVarB 3) (mVarB 4)) (gtSub 3 (mOp dIx (mVarB 5) (mRet (.int 0)))))
    (gSeq (gSet 6 (mBind (mLc [9] (mItems (mVarB 6)) (gtName 9) (mRet true) (mBind (mCons (mVar 9) (mCons (mBind (mCons (mOp dIx (mOp dIx (mVarB 6) (mVarB 4)) (mRet (.int 1))) (mCons (mOp dIx (mOp dIx (mVarB 6) (mVarB 4)) (mRet (.int 0))) (mRet []))) fun ds => mO (F_law_fr (ds ++ []))) (mRet []))) fun ds => mO (F_law_times (ds ++ [])))) fun ds => mRet (.list ds)))
    (gSeq (gAsg (mVar 6) (gtSub 3 (mVar 4)))
    (gFor (mRange1 (mVar 2)) (gtName 7) (gIf (mTest (mOp dNe (mVarB 7) (mVarB 4))) (gSeq (gSet 8 (mTup (mCons (mOp dSub (mRet (.int 0)) (mOp dIx (mOp dIx (mOp dIx (mVarB 3) (mVarB 7)) (mVarB 4)) (mRet (.int 0)))) (mCons (mOp dIx (mOp dIx (mOp dIx (mVarB 3) (mVarB 7)) (mVarB 4)) (mRet (.int 1))) (mRet [])))))
    (gAsg (mBind (mLc [10] (mRange1 (mOp dAddI (mVarB 2) (mRet (.int 1)))) (gtName 10) (mRet true) (mBind (mCons (mOp dIx (mOp dIx (mVarB 3) (mVarB 7)) (mVarB 10)) (mCons (mBind (mCons (mVar 8) (mCons (mOp dIx (mVarB 6) (mVarB 10)) (mRet []))) fun ds => mO (F_law_times (ds ++ []))) (mRet []))) fun ds => mO (F_law_plus (ds ++ [])))) fun ds => mRet (.list ds)) (gtSub 3 (mVar 7)))) gSkip)))))))))
    (gRet (mBind (mLc [11] (mItems (mVarB 3)) (gtName 11) (mRet true) (mOp dIx (mVarB 11) (mVarB 2))) fun ds => mRet (.list ds))))))
def F_law_solved : List D → Option D := runP g_law_solved 2 12
def g_law_less : MS := (gRet (mBind (mCons (mVar 0) (mCons (mTup (mCons (mOp dSub (mRet (.int 0)) (mOp dIx (mVarB 1) (mRet (.int 0)))) (mCons (mOp dIx (mVarB 1) (mRet (.int 1))) (mRet [])))) (mRet []))) fun ds => mO (F_law_plus (ds ++ []))))
def F_law_less : List D → Option D := runP g_law_less 2 2
def g_law_inner : MS := (gSeq (gSet 2 (mTup (mCons (mRet (.int 0)) (mCons (mRet (.int 1)) (mRet [])))))
    (gSeq (gFor (mRange1 (mUn dLen (mVarB 0))) (gtName 3) (gSet 2 (mBind (mCons (mVar 2) (mCons (mBind (mCons (mTup (mCons (mOp dIx (mVarB 0) (mVarB 3)) (mCons (mRet (.int 1)) (mRet [])))) (mCons (mOp dIx (mVarB 1) (mVarB 3)) (mRet []))) fun ds => mO (F_law_times (ds ++ []))) (mRet []))) fun ds => mO (F_law_plus (ds ++ [])))))
    (gRet (mVar 2))))
def F_law_inner : List D → Option D := runP g_law_inner 2 4
def g_law_squares : MS := (gSeq (gSet 3 (mBind (mLc [7] (mRange1 (mVar 1)) (gtName 7) (mRet true) (mBind (mLc [5] (mRange1 (mVar 1)) (gtName 5) (mRet true) (mCallG F_law_number (mConsRow 0 (mConsS (mVar 2) (mRet []))))) fun ds => mRet (.list ds))) fun ds => mRet (.list ds)))
    (gSeq (gSetO 4 (mLst (mRet [])))
    (gSeq (gFor (mRange1 (mVar 1)) (gtName 5) (gSeq (gSetO 6 (mLc [8] (mRange1 (mVar 1)) (gtName 8) (mRet true) (mUn dSum (mBind (mLc [9] (mItems (mVarB 3)) (gtName 9) (mRet true) (mOp dMul (mOp dIx (mVarB 9) (mVarB 5)) (mOp dIx (mVarB 9) (mVarB 8)))) fun ds => mRet (.list ds)))))
    (gSeq (gAsg (mOp dAddI (mOp dAddI (mOp dIx (mVarB 6) (mVarB 5)) (mRet (.int 1))) (mCallG F_law_taken (mConsRow 0 (mConsS (mRet (.int 2)) (mRet []))))) (gtSub 6 (mVar 5)))
    (gAppend 4 (mUn dTupOf (mVarB 6))))))
    (gRet (mUn dTupOf (mVarB 4))))))
def F_law_squares : List Sl → DL.Row → Option (D × DL.Row) := runDef g_law_squares 3 10
def g_law_task : MS := (gSeq (gSet 4 (mOp dAddI (mRet (.int 1)) (mCallG F_law_taken (mConsRow 0 (mConsS (mVar 1) (mRet []))))))
    (gSeq (gSet 5 (mCallG F_law_squares (mConsRow 0 (mConsS (mVar 4) (mConsS (mOp dAddI (mRet (.int 1)) (mCallG F_law_taken (mConsRow 0 (mConsS (mRet (.int 2)) (mRet []))))) (mRet []))))))
    (gSeq (gSet 6 (mUn dTupOf (mBind (mLc [11] (mRange1 (mVar 4)) (gtName 11) (mRet true) (mCallG F_law_number (mConsRow 0 (mConsS (mRet (.int 5)) (mRet []))))) fun ds => mRet (.list ds))))
    (gSeq (gSet 7 (mUn dTupOf (mBind (mLc [11] (mRange1 (mVar 4)) (gtName 11) (mRet true) (mCallG F_law_number (mConsRow 0 (mConsS (mRet (.int 3)) (mRet []))))) fun ds => mRet (.list ds))))
    (gSeq (gSetO 8 (mLst (mRet [])))
    (gSeq (gFor (mRange1 (mCallG F_law_taken (mConsRow 0 (mConsS (mOp dAddI (mVarB 2) (mRet (.int 1))) (mRet []))))) (gtName 9) (gSeq (gSet 10 (mUn dTupOf (mBind (mLc [11] (mRange1 (mVar 4)) (gtName 11) (mRet true) (mCallG F_law_number (mConsRow 0 (mConsS (mVar 3) (mRet []))))) fun ds => mRet (.list ds))))
    (gAppend 8 (mTup (mCons (mVar 10) (mCons (mCallG F_law_number (mConsRow 0 (mConsS (mRet (.int 5)) (mRet [])))) (mCons (mIf (mTest (mOp dEq (mCallG F_law_taken (mConsRow 0 (mConsS (mRet (.int 2)) (mRet [])))) (mRet (.int 0)))) (mCallG F_law_number (mConsRow 0 (mConsS (mRet (.int 2)) (mRet [])))) (mRet (.int 0))) (mRet []))))))))
    (gRet (mTup (mCons (mVar 5) (mCons (mVar 6) (mCons (mVar 7) (mCons (mUn dTupOf (mVarB 8)) (mRet [])))))))))))))
def F_law_task : List Sl → DL.Row → Option (D × DL.Row) := runDef g_law_task 4 12
def g_law_share : MS := (gRet (mBind (mCons (mCallG F_law_number (mConsRow 0 (mConsS (mVar 1) (mRet [])))) (mCons (mOp dAddI (mRet (.int 1)) (mCallG F_law_taken (mConsRow 0 (mConsS (mVar 2) (mRet []))))) (mRet []))) fun ds => mO (F_law_fr (ds ++ []))))
def F_law_share : List Sl → DL.Row → Option (D × DL.Row) := runDef g_law_share 3 3
def g_law_slope : MS := (gSeq (gSetO 3 (mLst (mRet [])))
    (gSeq (gFor (mRange1 (mUn dLen (mVarB 2))) (gtName 4) (gSeq (gSet 5 (mBind (mCons (mTup (mCons (mOp dIx (mOp dIx (mVarB 0) (mRet (.int 1))) (mVarB 4)) (mCons (mRet (.int 1)) (mRet [])))) (mCons (mBind (mCons (mTup (mCons (mOp dIx (mOp dIx (mVarB 0) (mRet (.int 2))) (mVarB 4)) (mCons (mRet (.int 1)) (mRet [])))) (mCons (mVar 1) (mRet []))) fun ds => mO (F_law_times (ds ++ []))) (mRet []))) fun ds => mO (F_law_plus (ds ++ []))))
    (gAppend 3 (mBind (mCons (mBind (mCons (mOp dIx (mOp dIx (mVarB 0) (mRet (.int 0))) (mVarB 4)) (mCons (mVar 2) (mRet []))) fun ds => mO (F_law_inner (ds ++ []))) (mCons (mVar 5) (mRet []))) fun ds => mO (F_law_plus (ds ++ []))))))
    (gFz 3 (gRet (mVar 3)))))
def F_law_slope : List D → Option D := runP g_law_slope 3 6
def g_law_gaps : MS := (gSeq (gSetO 3 (mLst (mRet [])))
    (gSeq (gFor (mItems (mOp dIx (mVarB 0) (mRet (.int 3)))) (gtTup 3 (gtCons (gtName 4) (gtCons (gtName 5) (gtCons (gtName 6) gtNil)))) (gSeq (gSet 7 (mBind (mCons (mTup (mCons (mVar 5) (mCons (mRet (.int 1)) (mRet [])))) (mCons (mBind (mCons (mTup (mCons (mVar 6) (mCons (mRet (.int 1)) (mRet [])))) (mCons (mVar 1) (mRet []))) fun ds => mO (F_law_times (ds ++ []))) (mRet []))) fun ds => mO (F_law_plus (ds ++ []))))
    (gAppend 3 (mBind (mCons (mBind (mCons (mVar 4) (mCons (mVar 2) (mRet []))) fun ds => mO (F_law_inner (ds ++ []))) (mCons (mVar 7) (mRet []))) fun ds => mO (F_law_less (ds ++ []))))))
    (gFz 3 (gRet (mVar 3)))))
def F_law_gaps : List D → Option D := runP g_law_gaps 3 8
def g_law_worth : MS := (gSeq (gSet 3 (mTup (mCons (mRet (.int 0)) (mCons (mRet (.int 1)) (mRet [])))))
    (gSeq (gFor (mRange1 (mUn dLen (mVarB 2))) (gtName 4) (gSeq (gSet 5 (mBind (mCons (mTup (mCons (mOp dIx (mOp dIx (mVarB 0) (mRet (.int 1))) (mVarB 4)) (mCons (mRet (.int 1)) (mRet [])))) (mCons (mBind (mCons (mTup (mCons (mOp dIx (mOp dIx (mVarB 0) (mRet (.int 2))) (mVarB 4)) (mCons (mRet (.int 1)) (mRet [])))) (mCons (mVar 1) (mRet []))) fun ds => mO (F_law_times (ds ++ []))) (mRet []))) fun ds => mO (F_law_plus (ds ++ []))))
    (gSeq (gSet 6 (mBind (mCons (mTup (mCons (mRet (.int 1)) (mCons (mRet (.int 2)) (mRet [])))) (mCons (mBind (mCons (mOp dIx (mOp dIx (mVarB 0) (mRet (.int 0))) (mVarB 4)) (mCons (mVar 2) (mRet []))) fun ds => mO (F_law_inner (ds ++ []))) (mRet []))) fun ds => mO (F_law_times (ds ++ []))))
    (gSet 3 (mBind (mCons (mVar 3) (mCons (mBind (mCons (mOp dIx (mVarB 2) (mVarB 4)) (mCons (mBind (mCons (mVar 6) (mCons (mVar 5) (mRet []))) fun ds => mO (F_law_plus (ds ++ []))) (mRet []))) fun ds => mO (F_law_times (ds ++ []))) (mRet []))) fun ds => mO (F_law_plus (ds ++ [])))))))
    (gRet (mVar 3))))
def F_law_worth : List D → Option D := runP g_law_worth 3 7
def g_law_shows : MS := (gSeq (gSet 4 (mBind (mCons (mVar 0) (mCons (mVar 1) (mCons (mVar 2) (mRet [])))) fun ds => mO (F_law_gaps (ds ++ []))))
    (gSeq (gFor (mRange1 (mUn dLen (mVarB 4))) (gtName 5) (gIf (mOr (mTest (mOp dLt (mOp dIx (mOp dIx (mVarB 4) (mVarB 5)) (mRet (.int 0))) (mRet (.int 0)))) (mOr (mTest (mOp dLt (mOp dIx (mOp dIx (mVarB 3) (mVarB 5)) (mRet (.int 0))) (mRet (.int 0)))) (mAnd (mTest (mOp dGt (mOp dIx (mOp dIx (mVarB 4) (mVarB 5)) (mRet (.int 0))) (mRet (.int 0)))) (mTest (mOp dNe (mOp dIx (mOp dIx (mVarB 3) (mVarB 5)) (mRet (.int 0))) (mRet (.int 0))))))) (gRet (mRet (.bool false))) gSkip))
    (gSeq (gSet 6 (mBind (mCons (mVar 0) (mCons (mVar 1) (mCons (mVar 2) (mRet [])))) fun ds => mO (F_law_slope (ds ++ []))))
    (gSeq (gFor (mRange1 (mUn dLen (mVarB 2))) (gtName 5) (gIf (mTest (mOp dNe (mOp dIx (mVarB 6) (mVarB 5)) (mBind (mCons (mBind (mLc [7] (mItems (mOp dIx (mVarB 0) (mRet (.int 3)))) (gtName 7) (mRet true) (mOp dIx (mOp dIx (mVarB 7) (mRet (.int 0))) (mVarB 5))) fun ds => mRet (.list ds)) (mCons (mVar 3) (mRet []))) fun ds => mO (F_law_inner (ds ++ []))))) (gRet (mRet (.bool false))) gSkip))
    (gRet (mRet (.bool true)))))))
def F_law_shows : List D → Option D := runP g_law_shows 4 8
def g_law_bars : MS := (gSeq (gIf (mTest (mOp dNe (mBind (mLc [6] (mItems (mVarB 2)) (gtName 6) (mTest (mOp dLt (mOp dIx (mVarB 6) (mRet (.int 0))) (mRet (.int 0)))) (mVar 6)) fun ds => mRet (.list ds)) (mBind (mLst (mRet [])) fun ds => mRet (.list ds)))) (gRet (mRet (.bool false))) gSkip)
    (gSeq (gFor (mRange1 (mUn dLen (mOp dIx (mVarB 0) (mRet (.int 0))))) (gtName 3) (gIf (mTest (mOp dNe (mOp dIx (mBind (mCons (mBind (mLc [7] (mItems (mOp dIx (mVarB 0) (mRet (.int 3)))) (gtName 7) (mRet true) (mOp dIx (mOp dIx (mVarB 7) (mRet (.int 0))) (mVarB 3))) fun ds => mRet (.list ds)) (mCons (mVar 2) (mRet []))) fun ds => mO (F_law_inner (ds ++ []))) (mRet (.int 0))) (mRet (.int 0)))) (gRet (mRet (.bool false))) gSkip))
    (gSeq (gSet 4 (mTup (mCons (mRet (.int 0)) (mCons (mRet (.int 1)) (mRet [])))))
    (gSeq (gFor (mRange1 (mUn dLen (mVarB 2))) (gtName 3) (gSeq (gSet 5 (mBind (mCons (mTup (mCons (mOp dIx (mOp dIx (mOp dIx (mVarB 0) (mRet (.int 3))) (mVarB 3)) (mRet (.int 1))) (mCons (mRet (.int 1)) (mRet [])))) (mCons (mBind (mCons (mTup (mCons (mOp dIx (mOp dIx (mOp dIx (mVarB 0) (mRet (.int 3))) (mVarB 3)) (mRet (.int 2))) (mCons (mRet (.int 1)) (mRet [])))) (mCons (mVar 1) (mRet []))) fun ds => mO (F_law_times (ds ++ []))) (mRet []))) fun ds => mO (F_law_plus (ds ++ []))))
    (gSet 4 (mBind (mCons (mVar 4) (mCons (mBind (mCons (mVar 5) (mCons (mOp dIx (mVarB 2) (mVarB 3)) (mRet []))) fun ds => mO (F_law_times (ds ++ []))) (mRet []))) fun ds => mO (F_law_plus (ds ++ []))))))
    (gRet (mOp dGt (mOp dIx (mVarB 4) (mRet (.int 0))) (mRet (.int 0))))))))
def F_law_bars : List D → Option D := runP g_law_bars 3 8
def g_negative : MS := (gRet (mBind (mLc [1, 2] (mItems (mVarB 0)) (gtTup 2 (gtCons (gtName 1) (gtCons (gtName 2) gtNil))) (mRet true) (mTup (mCons (mUn dNeg (mVarB 1)) (mCons (mVar 2) (mRet []))))) fun ds => mRet (.list ds)))
def F_negative : List D → Option D := runP g_negative 1 3
def g_held_table : MS := (gSeq (gSet 2 (mUn dLen (mOp dIx (mVarB 0) (mRet (.int 0)))))
    (gSeq (gSetO 3 (mLst (mRet [])))
    (gSeq (gFor (mRange1 (mVar 2)) (gtName 4) (gAppend 3 (mBind (mOpF dCat (mBind (mLc [6] (mItems (mOp dIx (mOp dIx (mVarB 0) (mRet (.int 0))) (mVarB 4))) (gtName 6) (mRet true) (mTup (mCons (mVar 6) (mCons (mRet (.int 1)) (mRet []))))) fun ds => mRet (.list ds)) (mBind (mLc [5] (mItems (mVarB 1)) (gtName 5) (mRet true) (mTup (mCons (mUn dNeg (mOp dIx (mOp dIx (mOp dIx (mOp dIx (mVarB 0) (mRet (.int 3))) (mVarB 5)) (mRet (.int 0))) (mVarB 4))) (mCons (mRet (.int 1)) (mRet []))))) fun ds => mRet (.list ds))) fun ds => mRet (.list ds))))
    (gSeq (gFor (mItems (mVarS 1)) (gtName 5) (gAppend 3 (mBind (mOpF dCat (mBind (mLc [6] (mItems (mOp dIx (mOp dIx (mOp dIx (mVarB 0) (mRet (.int 3))) (mVarB 5)) (mRet (.int 0)))) (gtName 6) (mRet true) (mTup (mCons (mVar 6) (mCons (mRet (.int 1)) (mRet []))))) fun ds => mRet (.list ds)) (mBind (mOpF dRep (mBind (mLst (mCons (mRet (.tuple [.int 0, .int 1])) (mRet []))) fun ds => mRet (.list ds)) (mUn dLen (mVarB 1))) fun ds => mRet (.list ds))) fun ds => mRet (.list ds))))
    (gFz 3 (gRet (mVar 3)))))))
def F_held_table : List D → Option D := runP g_held_table 2 7
def g_held : MS := (gSeq (gSet 3 (mBind (mCons (mVar 0) (mCons (mVar 1) (mRet []))) fun ds => mO (F_rights_at (ds ++ []))))
    (gSeq (gSet 4 (mBind (mOpF dCat (mBind (mCons (mBind (mCons (mVar 0) (mCons (mVar 1) (mRet []))) fun ds => mO (F_costs_at (ds ++ []))) (mRet [])) fun ds => mO (F_negative (ds ++ []))) (mBind (mLc [6] (mItems (mVarB 2)) (gtName 6) (mRet true) (mOp dIx (mVarB 3) (mVarB 6))) fun ds => mRet (.list ds))) fun ds => mRet (.list ds)))
    (gSeq (gSet 5 (mBind (mCons (mBind (mCons (mVar 0) (mCons (mVar 2) (mRet []))) fun ds => mO (F_held_table (ds ++ []))) (mCons (mBind (mLst (mCons (mVar 4) (mRet []))) fun ds => mRet (.list ds)) (mRet []))) fun ds => mO (F_solved (ds ++ []))))
    (gRet (mIf (mTest (mUn (fun d => some (.bool (dIsN d))) (mVarB 5))) (mRet .none) (mTup (mCons (mSl (mOp dIx (mVarB 5) (mRet (.int 0))) (mRet none) (mPart (mUn dLen (mOp dIx (mVarB 0) (mRet (.int 0)))))) (mCons (mSl (mOp dIx (mVarB 5) (mRet (.int 0))) (mPart (mUn dLen (mOp dIx (mVarB 0) (mRet (.int 0))))) (mRet none)) (mRet [])))))))))
def F_held : List D → Option D := runP g_held 3 7
def g_Holder_init : HS := (hSeq (hFld 0 "task" (mVar 1))
    (hSeq (hFld 0 "share" (mVar 2))
    (hSeq (hFldO 0 "lot" (mLst (mRet [])))
    (hSeq (hFldO 0 "weights" (mLst (mRet [])))
    (hFld 0 "plan" (mOp dIx (mBind (mCons (mVar 1) (mCons (mVar 2) (mCons (mTup (mRet [])) (mRet [])))) fun ds => mO (F_held (ds ++ []))) (mRet (.int 0))))))))
def F_Holder_init : FM := runM g_Holder_init 3 3
def g_turn_of : MS := (gSeq (gSet 3 (mUn dLen (mOp dIx (mVarB 0) (mRet (.int 0)))))
    (gSeq (gSet 4 (mBind (mOpF dCat (mBind (mLc [6] (mItems (mVarB 2)) (gtName 6) (mRet true) (mTup (mCons (mVar 6) (mCons (mRet (.int 1)) (mRet []))))) fun ds => mRet (.list ds)) (mBind (mOpF dRep (mBind (mLst (mCons (mRet (.tuple [.int 0, .int 1])) (mRet []))) fun ds => mRet (.list ds)) (mUn dLen (mVarB 1))) fun ds => mRet (.list ds))) fun ds => mRet (.list ds)))
    (gSeq (gSet 5 (mOp dIx (mBind (mCons (mCallG (runDef g_held_table 2 7) (mConsS (mVar 0) (mConsBor 1 (mRet [])))) (mCons (mBind (mLst (mCons (mVar 4) (mRet []))) fun ds => mRet (.list ds)) (mRet []))) fun ds => mO (F_solved (ds ++ []))) (mRet (.int 0))))
    (gRet (mTup (mCons (mSl (mVarB 5) (mRet none) (mPart (mVar 3))) (mCons (mSl (mVarB 5) (mPart (mVar 3)) (mRet none)) (mRet []))))))))
def F_turn_of : List D → Option D := runP g_turn_of 3 7
def g_is_below : MS := (gRet (mOp dLt (mOp dMul (mOp dIx (mVarB 0) (mRet (.int 0))) (mOp dIx (mVarB 1) (mRet (.int 1)))) (mOp dMul (mOp dIx (mVarB 1) (mRet (.int 0))) (mOp dIx (mVarB 0) (mRet (.int 1))))))
def F_is_below : List D → Option D := runP g_is_below 2 2
def g_first_out : MS := (gSeq (gSet 2 (mRet .none))
    (gSeq (gFor (mEz (mVarS 0) (mVarS 1)) (gtTup 2 (gtCons (gtName 3) (gtCons (gtTup 2 (gtCons (gtName 4) (gtCons (gtName 5) gtNil))) gtNil))) (gIf (mTest (mOp dLt (mOp dIx (mVarB 5) (mRet (.int 0))) (mRet (.int 0)))) (gSeq (gSet 6 (mBind (mCons (mVar 4) (mCons (mTup (mCons (mUn dNeg (mOp dIx (mVarB 5) (mRet (.int 0)))) (mCons (mOp dIx (mVarB 5) (mRet (.int 1))) (mRet [])))) (mRet []))) fun ds => mO (F_over (ds ++ []))))
    (gIf (mOr (mTest (mUn (fun d => some (.bool (dIsN d))) (mVarB 2))) (mTest (mBind (mCons (mVar 6) (mCons (mOp dIx (mVarB 2) (mRet (.int 0))) (mRet []))) fun ds => mO (F_is_below (ds ++ []))))) (gSet 2 (mTup (mCons (mVar 6) (mCons (mVar 3) (mRet []))))) gSkip)) gSkip))
    (gRet (mVar 2))))
def F_first_out : List D → Option D := runP g_first_out 2 7
def g_spread : MS := (gSeq (gSetO 3 (mOpF dRep (mBind (mLst (mCons (mRet (.tuple [.int 0, .int 1])) (mRet []))) fun ds => mRet (.list ds)) (mUn dLen (mOp dIx (mVarB 0) (mRet (.int 3))))))
    (gSeq (gFor (mZip2 (mVarS 1) (mVarS 2)) (gtTup 2 (gtCons (gtName 4) (gtCons (gtName 5) gtNil))) (gAsg (mVar 5) (gtSub 3 (mVar 4))))
    (gRet (mUn dTupOf (mVarB 3)))))
def F_spread : List D → Option D := runP g_spread 3 6
def g_Holder_brought : HS := (hSeq (hP 0 (gPar 2 3 (mBind (mOp dIx (mOp dIx (mOp dIx (mFldB 0 "task") (mRet (.int 3))) (mVarB 1)) (mRet (.int 0))) fun d => mRet (.s d)) (mBind (mRet (.tuple [.int 0, .int 1])) fun d => mRet (.s d))))
    (hWh 0 (mTest (mRet (.bool true))) (hSeq (hP 0 (gAsg (mCallG (runDef g_turn_of 3 7) (mConsS (mFldS 0 "task") (mConsB (mFldB 0 "lot") (mConsS (mVar 2) (mRet []))))) (gtTup 2 (gtCons (gtName 4) (gtCons (gtName 5) gtNil)))))
    (hSeq (hP 0 (gSet 6 (mCallG (runDef g_first_out 2 7) (mConsB (mFldB 0 "weights") (mConsS (mVar 5) (mRet []))))))
    (hSeq (hP 0 (gSet 7 (mBind (mCons (mVar 2) (mCons (mVar 4) (mRet []))) fun ds => mO (F_inner (ds ++ [])))))
    (hSeq (hP 0 (gIf (mAnd (mTest (mOp dEq (mOp dIx (mVarB 7) (mRet (.int 0))) (mRet (.int 0)))) (mTest (mUn (fun d => some (.bool (dIsN d))) (mVarB 6)))) (gRet (mBind (mCons (mFldS 0 "task") (mCons (mBind (mLst (mStar (mFldB 0 "lot") (mCons (mVar 1) (mRet [])))) fun ds => mRet (.list ds)) (mCons (mBind (mLst (mStar (mVarB 5) (mCons (mTup (mCons (mRet (.int 1)) (mCons (mRet (.int 1)) (mRet [])))) (mRet [])))) fun ds => mRet (.list ds)) (mRet [])))) fun ds => mO (F_spread (ds ++ [])))) gSkip))
    (hSeq (hP 0 (gSet 8 (mRet .none)))
    (hSeq (hP 0 (gIf (mTest (mOp dGt (mOp dIx (mVarB 7) (mRet (.int 0))) (mRet (.int 0)))) (gSet 8 (mBind (mCons (mBind (mCons (mTup (mCons (mRet (.int 0)) (mCons (mRet (.int 1)) (mRet [])))) (mCons (mOp dIx (mBind (mCons (mFldS 0 "task") (mCons (mFldS 0 "share") (mCons (mFldS 0 "plan") (mRet [])))) fun ds => mO (F_gaps_of (ds ++ []))) (mVarB 1)) (mRet []))) fun ds => mO (F_less (ds ++ []))) (mCons (mVar 7) (mRet []))) fun ds => mO (F_over (ds ++ [])))) gSkip))
    (hSeq (hP 0 (gSet 9 (mIf (mOr (mTest (mUn (fun d => some (.bool (dIsN d))) (mVarB 6))) (mAnd (mTest (mUn (fun d => some (.bool (!dIsN d))) (mVarB 8))) (mNot (mTest (mBind (mCons (mOp dIx (mVarB 6) (mRet (.int 0))) (mCons (mVar 8) (mRet []))) fun ds => mO (F_is_below (ds ++ []))))))) (mVar 8) (mOp dIx (mVarB 6) (mRet (.int 0))))))
    (hSeq (hFld 0 "plan" (mBind (mCons (mFldS 0 "plan") (mCons (mVar 4) (mCons (mVar 9) (mRet [])))) fun ds => mO (F_added (ds ++ []))))
    (hSeq (hFldO 0 "weights" (mCallN (fun l => runNew n_added 3 5 (l ++ [])) (mConsB (mFldB 0 "weights") (mConsS (mVar 5) (mConsS (mVar 9) (mRet []))))))
    (hSeq (hP 0 (gSet 3 (mOp dIx (mBind (mCons (mBind (mLst (mCons (mVar 3) (mRet []))) fun ds => mRet (.list ds)) (mCons (mBind (mLst (mCons (mTup (mCons (mRet (.int 1)) (mCons (mRet (.int 1)) (mRet [])))) (mRet []))) fun ds => mRet (.list ds)) (mCons (mVar 9) (mRet [])))) fun ds => mO (F_added (ds ++ []))) (mRet (.int 0)))))
    (hSeq (hIf 0 (mTest (mOp dEq (mVarB 9) (mVarB 8))) (hSeq (hApp 0 "lot" (mVar 1))
    (hSeq (hApp 0 "weights" (mVar 3))
    (hP 0 (gRet (mRet .none))))) hSkip)
    (hSeq (hPop 0 "lot" (mOp dIx (mVarB 6) (mRet (.int 1))))
    (hPop 0 "weights" (mOp dIx (mVarB 6) (mRet (.int 1)))))))))))))))) 1000))
def F_Holder_brought : FM := runM g_Holder_brought 2 10
def g_Holder_done : HS := (hWh 0 (mTest (mRet (.bool true))) (hSeq (hP 0 (gSet 1 (mBind (mCons (mFldS 0 "task") (mCons (mFldS 0 "share") (mCons (mFldS 0 "plan") (mRet [])))) fun ds => mO (F_gaps_of (ds ++ [])))))
    (hSeq (hP 0 (gSet 2 (mBind (mLc [4, 5] (mEnum (mVarB 1)) (gtTup 2 (gtCons (gtName 4) (gtCons (gtName 5) gtNil))) (mTest (mOp dLt (mOp dIx (mVarB 5) (mRet (.int 0))) (mRet (.int 0)))) (mVar 4)) fun ds => mRet (.list ds))))
    (hSeq (hP 0 (gIf (mTest (mOp dEq (mVarB 2) (mBind (mLst (mRet [])) fun ds => mRet (.list ds)))) (gRet (mRet .none)) gSkip))
    (hSeq (hCall 0 3 "brought" F_Holder_brought (mCons (mOp dIx (mVarB 2) (mRet (.int 0))) (mRet [])))
    (hP 0 (gIf (mTest (mUn (fun d => some (.bool (!dIsN d))) (mVarB 3))) (gRet (mVar 3)) gSkip)))))) 1000)
def F_Holder_done : FM := runM g_Holder_done 1 6
def g_lots : MS := (gSeq (gPar 2 3 (mBind (mBind (mLst (mCons (mTup (mRet [])) (mRet []))) fun ds => mRet (.list ds)) fun d => mRet (.s d)) (mBind (mBind (mLst (mCons (mTup (mRet [])) (mRet []))) fun ds => mRet (.list ds)) fun d => mRet (.s d)))
    (gSeq (gFor (mRange1 (mOp dMin2 (mVarB 0) (mVarB 1))) (gtName 4) (gSeq (gSetO 5 (mLst (mRet [])))
    (gSeq (gFor (mItems (mVarS 3)) (gtName 6) (gExtend 5 (mBind (mLc [7] (mRange2 (mIf (mTest (mOp dNe (mVarB 6) (mTup (mRet [])))) (mOp dAddI (mOp dIx (mVarB 6) (mUn dNeg (mRet (.int 1)))) (mRet (.int 1))) (mRet (.int 0))) (mVar 0)) (gtName 7) (mRet true) (mTup (mStar (mVarB 6) (mCons (mVar 7) (mRet []))))) fun ds => mRet (.list ds))))
    (gFz 5 (gPar 2 3 (mBind (mBind (mOpF dCat (mVarB 2) (mVarB 5)) fun ds => mRet (.list ds)) fun d => mRet (.s d)) (mBind (mVar 5) fun d => mRet (.s d)))))))
    (gRet (mVar 2))))
def F_lots : List D → Option D := runP g_lots 2 8
def g_by_lots : MS := (gSeq (gFor (mItems (mBind (mCons (mUn dLen (mOp dIx (mVarB 0) (mRet (.int 3)))) (mCons (mUn dLen (mOp dIx (mVarB 0) (mRet (.int 0)))) (mRet []))) fun ds => mO (F_lots (ds ++ [])))) (gtName 2) (gSeq (gSet 3 (mBind (mCons (mVar 0) (mCons (mVar 1) (mCons (mVar 2) (mRet [])))) fun ds => mO (F_held (ds ++ []))))
    (gIf (mAnd (mTest (mUn (fun d => some (.bool (!dIsN d))) (mVarB 3))) (mTest (mBind (mCons (mVar 0) (mCons (mVar 1) (mCons (mOp dIx (mVarB 3) (mRet (.int 0))) (mCons (mBind (mCons (mVar 0) (mCons (mVar 2) (mCons (mOp dIx (mVarB 3) (mRet (.int 1))) (mRet [])))) fun ds => mO (F_spread (ds ++ []))) (mRet []))))) fun ds => mO (F_shows_of (ds ++ []))))) (gRet (mTup (mCons (mUn dTupOf (mOp dIx (mVarB 3) (mRet (.int 0)))) (mCons (mBind (mCons (mVar 0) (mCons (mVar 2) (mCons (mOp dIx (mVarB 3) (mRet (.int 1))) (mRet [])))) fun ds => mO (F_spread (ds ++ []))) (mRet []))))) gSkip)))
    (gRet (mRet .none)))
def F_by_lots : List D → Option D := runP g_by_lots 2 4
def g_by_holding : HS := (hSeq (hCall 2 3 "done" F_Holder_done (mRet []))
    (hSeq (hP 2 (gIf (mTest (mUn (fun d => some (.bool (!dIsN d))) (mVarB 3))) (gRet (mTup (mCons (mRet .none) (mCons (mVar 3) (mRet []))))) gSkip))
    (hP 2 (gRet (mTup (mCons (mUn dTupOf (mFldB 2 "plan")) (mCons (mCallG (runDef g_spread 3 6) (mConsS (mVar 0) (mConsB (mFldB 2 "lot") (mConsB (mFldB 2 "weights") (mRet []))))) (mRet []))))))))
noncomputable def F_by_holding : List D → Option D := allA (runMk F_Holder_init g_by_holding 2 4)
def g_best : MS := (gSeq (gDrop (mBind (mCons (mVar 0) (mCons (mVar 1) (mRet []))) fun ds => mO (F_need_both (ds ++ []))))
    (gRet (mOp dIx (mBind (mCons (mVar 0) (mCons (mVar 1) (mRet []))) fun ds => mO (F_by_holding (ds ++ []))) (mRet (.int 0)))))
def F_best : List D → Option D := runP g_best 2 2
def g_best_by_lots : MS := (gSeq (gDrop (mBind (mCons (mVar 0) (mCons (mVar 1) (mRet []))) fun ds => mO (F_need_both (ds ++ []))))
    (gSeq (gSet 2 (mBind (mCons (mVar 0) (mCons (mVar 1) (mRet []))) fun ds => mO (F_by_lots (ds ++ []))))
    (gRet (mIf (mTest (mUn (fun d => some (.bool (!dIsN d))) (mVarB 2))) (mOp dIx (mVarB 2) (mRet (.int 0))) (mRet .none)))))
def F_best_by_lots : List D → Option D := runP g_best_by_lots 2 3
def g_best_worth : MS := (gSeq (gDrop (mBind (mCons (mVar 0) (mCons (mVar 1) (mRet []))) fun ds => mO (F_need_both (ds ++ []))))
    (gSeq (gSet 2 (mOp dIx (mBind (mCons (mVar 0) (mCons (mVar 1) (mRet []))) fun ds => mO (F_by_holding (ds ++ []))) (mRet (.int 0))))
    (gRet (mIf (mTest (mUn (fun d => some (.bool (!dIsN d))) (mVarB 2))) (mBind (mCons (mVar 0) (mCons (mVar 1) (mCons (mVar 2) (mRet [])))) fun ds => mO (F_worth_of (ds ++ []))) (mRet .none)))))
def F_best_worth : List D → Option D := runP g_best_worth 2 3
def g_some_weights : MS := (gSeq (gDrop (mBind (mCons (mVar 0) (mCons (mVar 1) (mRet []))) fun ds => mO (F_need_both (ds ++ []))))
    (gRet (mOp dIx (mBind (mCons (mVar 0) (mCons (mVar 1) (mRet []))) fun ds => mO (F_by_holding (ds ++ []))) (mRet (.int 1)))))
def F_some_weights : List D → Option D := runP g_some_weights 2 2
def g_law_pick : MS := (gRet (mOp dIx (mVarB 1) (mCallG F_law_taken (mConsRow 0 (mConsS (mUn dLen (mVarB 1)) (mRet []))))))
def F_law_pick : List Sl → DL.Row → Option (D × DL.Row) := runDef g_law_pick 2 2
def g_law_lots : MS := (gSeq (gSet 2 (mBind (mLst (mCons (mTup (mRet [])) (mRet []))) fun ds => mRet (.list ds)))
    (gSeq (gFor (mRange1 (mVar 1)) (gtName 3) (gSeq (gSet 4 (mBind (mLst (mRet [])) fun ds => mRet (.list ds)))
    (gSeq (gFor (mItems (mVarS 2)) (gtName 5) (gSeq (gSet 6 (mIf (mTest (mOp dNe (mVarB 5) (mTup (mRet [])))) (mOp dAddI (mOp dIx (mVarB 5) (mUn dNeg (mRet (.int 1)))) (mRet (.int 1))) (mRet (.int 0))))
    (gSet 4 (mBind (mOpF dCat (mVarB 4) (mBind (mLc [7] (mRange2 (mVar 6) (mVar 0)) (gtName 7) (mRet true) (mOp dCatT (mVarB 5) (mTup (mCons (mVar 7) (mRet []))))) fun ds => mRet (.list ds))) fun ds => mRet (.list ds)))))
    (gSet 2 (mVar 4)))))
    (gRet (mVar 2))))
def F_law_lots : List D → Option D := runP g_law_lots 2 8
def g_law_best : MS := (gSeq (gAsg (mTup (mCons (mUn dLen (mOp dIx (mVarB 0) (mRet (.int 0)))) (mCons (mOp dIx (mVarB 1) (mRet (.int 0))) (mCons (mOp dIx (mVarB 1) (mRet (.int 1))) (mRet []))))) (gtTup 3 (gtCons (gtName 2) (gtCons (gtName 3) (gtCons (gtName 4) gtNil)))))
    (gSeq (gFor (mRange1 (mOp dAddI (mOp dMin2 (mVarB 2) (mUn dLen (mOp dIx (mVarB 0) (mRet (.int 3))))) (mRet (.int 1)))) (gtName 5) (gFor (mItems (mBind (mCons (mUn dLen (mOp dIx (mVarB 0) (mRet (.int 3)))) (mCons (mVar 5) (mRet []))) fun ds => mO (F_law_lots (ds ++ [])))) (gtName 6) (gSeq (gPar 7 8 (mBind (mLst (mRet [])) fun d => mRet (.o d)) (mBind (mLst (mRet [])) fun d => mRet (.o d)))
    (gSeq (gFor (mRange1 (mVar 2)) (gtName 9) (gSeq (gAppend 7 (mBind (mOpF dCat (mBind (mBind (mOp dIx (mOp dIx (mVarB 0) (mRet (.int 0))) (mVarB 9)) fun d => mO (dItems d)) fun ds => mRet (.list ds)) (mBind (mLc [10] (mItems (mVarB 6)) (gtName 10) (mRet true) (mOp dSub (mRet (.int 0)) (mOp dIx (mOp dIx (mOp dIx (mOp dIx (mVarB 0) (mRet (.int 3))) (mVarB 10)) (mRet (.int 0))) (mVarB 9)))) fun ds => mRet (.list ds))) fun ds => mRet (.list ds)))
    (gAppend 8 (mOp dSub (mOp dSub (mRet (.int 0)) (mOp dMul (mOp dIx (mOp dIx (mVarB 0) (mRet (.int 1))) (mVarB 9)) (mVarB 4))) (mOp dMul (mOp dIx (mOp dIx (mVarB 0) (mRet (.int 2))) (mVarB 9)) (mVarB 3))))))
    (gSeq (gFor (mItems (mVarS 6)) (gtName 10) (gSeq (gAppend 7 (mBind (mOpF dCat (mBind (mBind (mOp dIx (mOp dIx (mOp dIx (mVarB 0) (mRet (.int 3))) (mVarB 10)) (mRet (.int 0))) fun d => mO (dItems d)) fun ds => mRet (.list ds)) (mBind (mOpF dRep (mBind (mLst (mCons (mRet (.int 0)) (mRet []))) fun ds => mRet (.list ds)) (mVarB 5)) fun ds => mRet (.list ds))) fun ds => mRet (.list ds)))
    (gAppend 8 (mOp dAddI (mOp dMul (mOp dIx (mOp dIx (mOp dIx (mVarB 0) (mRet (.int 3))) (mVarB 10)) (mRet (.int 1))) (mVarB 4)) (mOp dMul (mOp dIx (mOp dIx (mOp dIx (mVarB 0) (mRet (.int 3))) (mVarB 10)) (mRet (.int 2))) (mVarB 3))))))
    (gSeq (gFz 8 (gFz 7 (gSet 11 (mBind (mCons (mVar 7) (mCons (mVar 8) (mRet []))) fun ds => mO (F_law_solved (ds ++ []))))))
    (gIf (mTest (mUn (fun d => some (.bool (!dIsN d))) (mVarB 11))) (gSeq (gSet 11 (mBind (mLc [13] (mItems (mVarB 11)) (gtName 13) (mRet true) (mBind (mCons (mVar 13) (mCons (mTup (mCons (mRet (.int 1)) (mCons (mVar 4) (mRet [])))) (mRet []))) fun ds => mO (F_law_times (ds ++ [])))) fun ds => mRet (.list ds)))
    (gSeq (gSetO 12 (mOpF dRep (mBind (mLst (mCons (mTup (mCons (mRet (.int 0)) (mCons (mRet (.int 1)) (mRet [])))) (mRet []))) fun ds => mRet (.list ds)) (mUn dLen (mOp dIx (mVarB 0) (mRet (.int 3))))))
    (gSeq (gFor (mRange1 (mVar 5)) (gtName 9) (gAsg (mOp dIx (mVarB 11) (mOp dAddI (mVarB 2) (mVarB 9))) (gtSub 12 (mOp dIx (mVarB 6) (mVarB 9)))))
    (gFz 12 (gIf (mTest (mBind (mCons (mVar 0) (mCons (mVar 1) (mCons (mUn dTupOf (mSl (mVarB 11) (mRet none) (mPart (mVar 2)))) (mCons (mVar 12) (mRet []))))) fun ds => mO (F_law_shows (ds ++ [])))) (gRet (mUn dTupOf (mSl (mVarB 11) (mRet none) (mPart (mVar 2))))) gSkip))))) gSkip)))))))
    (gRet (mRet .none))))
def F_law_best : List D → Option D := runP g_law_best 2 14
def g_lines_of : MS := (gSeq (gSet 2 (mUn dLen (mOp dIx (mVarB 0) (mRet (.int 0)))))
    (gSeq (gSet 3 (mBind (mOpF dCat (mBind (mCons (mBind (mLc [6] (mItems (mOp dIx (mVarB 0) (mRet (.int 1)))) (gtName 6) (mRet true) (mTup (mCons (mVar 6) (mCons (mRet (.int 1)) (mRet []))))) fun ds => mRet (.list ds)) (mRet [])) fun ds => mO (F_negative (ds ++ []))) (mBind (mLc [7] (mItems (mVarB 1)) (gtName 7) (mRet true) (mTup (mCons (mOp dIx (mOp dIx (mOp dIx (mVarB 0) (mRet (.int 3))) (mVarB 7)) (mRet (.int 1))) (mCons (mRet (.int 1)) (mRet []))))) fun ds => mRet (.list ds))) fun ds => mRet (.list ds)))
    (gSeq (gSet 4 (mBind (mOpF dCat (mBind (mCons (mBind (mLc [6] (mItems (mOp dIx (mVarB 0) (mRet (.int 2)))) (gtName 6) (mRet true) (mTup (mCons (mVar 6) (mCons (mRet (.int 1)) (mRet []))))) fun ds => mRet (.list ds)) (mRet [])) fun ds => mO (F_negative (ds ++ []))) (mBind (mLc [7] (mItems (mVarB 1)) (gtName 7) (mRet true) (mTup (mCons (mOp dIx (mOp dIx (mOp dIx (mVarB 0) (mRet (.int 3))) (mVarB 7)) (mRet (.int 2))) (mCons (mRet (.int 1)) (mRet []))))) fun ds => mRet (.list ds))) fun ds => mRet (.list ds)))
    (gSeq (gSet 5 (mBind (mCons (mBind (mCons (mVar 0) (mCons (mVar 1) (mRet []))) fun ds => mO (F_held_table (ds ++ []))) (mCons (mBind (mLst (mCons (mVar 3) (mCons (mVar 4) (mRet [])))) fun ds => mRet (.list ds)) (mRet []))) fun ds => mO (F_solved (ds ++ []))))
    (gSeq (gIf (mTest (mUn (fun d => some (.bool (dIsN d))) (mVarB 5))) (gRet (mRet .none)) gSkip)
    (gRet (mTup (mCons (mSl (mOp dIx (mVarB 5) (mRet (.int 0))) (mRet none) (mPart (mVar 2))) (mCons (mSl (mOp dIx (mVarB 5) (mRet (.int 1))) (mRet none) (mPart (mVar 2))) (mCons (mSl (mOp dIx (mVarB 5) (mRet (.int 0))) (mPart (mVar 2)) (mRet none)) (mCons (mSl (mOp dIx (mVarB 5) (mRet (.int 1))) (mPart (mVar 2)) (mRet none)) (mRet []))))))))))))
def F_lines_of : List D → Option D := runP g_lines_of 2 8
def g_cut : MS := (gSeq (gAsg (mVar 0) (gtTup 2 (gtCons (gtName 3) (gtCons (gtName 4) gtNil))))
    (gSeq (gIf (mTest (mOp dEq (mOp dIx (mVarB 2) (mRet (.int 0))) (mRet (.int 0)))) (gRet (mIf (mTest (mOp dGe (mOp dIx (mVarB 1) (mRet (.int 0))) (mRet (.int 0)))) (mVar 0) (mRet .none))) gSkip)
    (gSeq (gSet 5 (mBind (mCons (mTup (mCons (mUn dNeg (mOp dIx (mVarB 1) (mRet (.int 0)))) (mCons (mOp dIx (mVarB 1) (mRet (.int 1))) (mRet [])))) (mCons (mVar 2) (mRet []))) fun ds => mO (F_over (ds ++ []))))
    (gSeq (gIf (mTest (mOp dGt (mOp dIx (mVarB 2) (mRet (.int 0))) (mRet (.int 0)))) (gSet 3 (mIf (mOr (mTest (mUn (fun d => some (.bool (dIsN d))) (mVarB 3))) (mTest (mBind (mCons (mVar 3) (mCons (mVar 5) (mRet []))) fun ds => mO (F_is_below (ds ++ []))))) (mVar 5) (mVar 3))) (gSet 4 (mIf (mOr (mTest (mUn (fun d => some (.bool (dIsN d))) (mVarB 4))) (mTest (mBind (mCons (mVar 5) (mCons (mVar 4) (mRet []))) fun ds => mO (F_is_below (ds ++ []))))) (mVar 5) (mVar 4))))
    (gRet (mIf (mOr (mTest (mUn (fun d => some (.bool (dIsN d))) (mVarB 3))) (mOr (mTest (mUn (fun d => some (.bool (dIsN d))) (mVarB 4))) (mNot (mTest (mBind (mCons (mVar 4) (mCons (mVar 3) (mRet []))) fun ds => mO (F_is_below (ds ++ []))))))) (mTup (mCons (mVar 3) (mCons (mVar 4) (mRet [])))) (mRet .none)))))))
def F_cut : List D → Option D := runP g_cut 3 6
def g_stretch_of : MS := (gSeq (gAsg (mVar 1) (gtTup 4 (gtCons (gtName 2) (gtCons (gtName 3) (gtCons (gtName 4) (gtCons (gtName 5) gtNil))))))
    (gSeq (gSet 6 (mTup (mCons (mRet .none) (mCons (mRet .none) (mRet [])))))
    (gSeq (gFor (mZip2 (mVarS 4) (mVarS 5)) (gtTup 2 (gtCons (gtName 7) (gtCons (gtName 8) gtNil))) (gSet 6 (mIf (mTest (mUn (fun d => some (.bool (!dIsN d))) (mVarB 6))) (mBind (mCons (mVar 6) (mCons (mVar 7) (mCons (mVar 8) (mRet [])))) fun ds => mO (F_cut (ds ++ []))) (mRet .none))))
    (gSeq (gFor (mItems (mOp dIx (mVarB 0) (mRet (.int 3)))) (gtTup 3 (gtCons (gtName 9) (gtCons (gtName 10) (gtCons (gtName 11) gtNil)))) (gIf (mTest (mUn (fun d => some (.bool (!dIsN d))) (mVarB 6))) (gSet 6 (mBind (mCons (mVar 6) (mCons (mBind (mCons (mBind (mCons (mVar 9) (mCons (mVar 2) (mRet []))) fun ds => mO (F_inner (ds ++ []))) (mCons (mTup (mCons (mVar 10) (mCons (mRet (.int 1)) (mRet [])))) (mRet []))) fun ds => mO (F_less (ds ++ []))) (mCons (mBind (mCons (mBind (mCons (mVar 9) (mCons (mVar 3) (mRet []))) fun ds => mO (F_inner (ds ++ []))) (mCons (mTup (mCons (mVar 11) (mCons (mRet (.int 1)) (mRet [])))) (mRet []))) fun ds => mO (F_less (ds ++ []))) (mRet [])))) fun ds => mO (F_cut (ds ++ [])))) gSkip))
    (gRet (mVar 6))))))
def F_stretch_of : List D → Option D := runP g_stretch_of 2 12
def g_piece_of : MS := (gSeq (gSet 2 (mBind (mCons (mVar 0) (mCons (mVar 1) (mRet []))) fun ds => mO (F_lines_of (ds ++ []))))
    (gSeq (gSet 3 (mIf (mTest (mUn (fun d => some (.bool (!dIsN d))) (mVarB 2))) (mBind (mCons (mVar 0) (mCons (mVar 2) (mRet []))) fun ds => mO (F_stretch_of (ds ++ []))) (mRet .none)))
    (gSeq (gIf (mTest (mUn (fun d => some (.bool (dIsN d))) (mVarB 3))) (gRet (mRet .none)) gSkip)
    (gSeq (gAsg (mVar 3) (gtTup 2 (gtCons (gtName 4) (gtCons (gtName 5) gtNil))))
    (gSeq (gIf (mAnd (mTest (mUn (fun d => some (.bool (!dIsN d))) (mVarB 4))) (mTest (mOp dEq (mVarB 4) (mVarB 5)))) (gRet (mTup (mCons (mVar 4) (mCons (mVar 5) (mCons (mUn dTupOf (mBind (mCons (mOp dIx (mVarB 2) (mRet (.int 0))) (mCons (mOp dIx (mVarB 2) (mRet (.int 1))) (mCons (mVar 4) (mRet [])))) fun ds => mO (F_added (ds ++ [])))) (mCons (mOp dRepT2 (mTup (mCons (mRet (.tuple [.int 0, .int 1])) (mRet []))) (mUn dLen (mOp dIx (mVarB 0) (mRet (.int 0))))) (mRet []))))))) gSkip)
    (gRet (mTup (mCons (mVar 4) (mCons (mVar 5) (mCons (mUn dTupOf (mOp dIx (mVarB 2) (mRet (.int 0)))) (mCons (mUn dTupOf (mOp dIx (mVarB 2) (mRet (.int 1)))) (mRet []))))))))))))
def F_piece_of : List D → Option D := runP g_piece_of 2 6
def g_is_ahead : MS := (gSeq (gIf (mOr (mTest (mUn (fun d => some (.bool (dIsN d))) (mVarB 0))) (mTest (mUn (fun d => some (.bool (dIsN d))) (mVarB 1)))) (gRet (mAndV (mUn (fun d => some (.bool (dIsN d))) (mVarB 0)) (mUn (fun d => some (.bool (!dIsN d))) (mVarB 1)))) gSkip)
    (gRet (mBind (mCons (mVar 0) (mCons (mVar 1) (mRet []))) fun ds => mO (F_is_below (ds ++ [])))))
def F_is_ahead : List D → Option D := runP g_is_ahead 2 2
def g_in_order : MS := (gSeq (gSetO 1 (mLst (mRet [])))
    (gSeq (gFor (mItems (mVarS 0)) (gtName 2) (gSeq (gSet 3 (mUn dLen (mBind (mLc [4] (mItems (mVarB 1)) (gtName 4) (mNot (mTest (mBind (mCons (mOp dIx (mVarB 2) (mRet (.int 0))) (mCons (mOp dIx (mVarB 4) (mRet (.int 0))) (mRet []))) fun ds => mO (F_is_ahead (ds ++ []))))) (mRet (.int 1))) fun ds => mRet (.list ds))))
    (gInsert 1 (mVar 3) (mVar 2))))
    (gFz 1 (gRet (mVar 1)))))
def F_in_order : List D → Option D := runP g_in_order 1 5
def g_joined : MS := (gSeq (gSet 1 (mBind (mLc [9] (mItems (mVarB 0)) (gtName 9) (mOr (mTest (mUn (fun d => some (.bool (dIsN d))) (mOp dIx (mVarB 9) (mRet (.int 0))))) (mTest (mOp dNe (mOp dIx (mVarB 9) (mRet (.int 0))) (mOp dIx (mVarB 9) (mRet (.int 1)))))) (mVar 9)) fun ds => mRet (.list ds)))
    (gSeq (gIf (mTest (mOp dEq (mVarB 1) (mBind (mLst (mRet [])) fun ds => mRet (.list ds)))) (gRet (mUn dTupOf (mSl (mVarB 0) (mRet none) (mPart (mRet (.int 1)))))) gSkip)
    (gSeq (gSetO 2 (mLst (mRet [])))
    (gSeq (gFor (mItems (mBind (mCons (mVar 1) (mRet [])) fun ds => mO (F_in_order (ds ++ [])))) (gtTup 4 (gtCons (gtName 3) (gtCons (gtName 4) (gtCons (gtName 5) (gtCons (gtName 6) gtNil))))) (gIf (mAnd (mTest (mOp dNe (mVarB 2) (mBind (mLst (mRet [])) fun ds => mRet (.list ds)))) (mTest (mOp dEq (mSl (mOp dIx (mVarB 2) (mUn dNeg (mRet (.int 1)))) (mPart (mRet (.int 2))) (mRet none)) (mTup (mCons (mVar 5) (mCons (mVar 6) (mRet []))))))) (gSeq (gAsg (mSl (mOp dIx (mVarB 2) (mUn dNeg (mRet (.int 1)))) (mRet none) (mPart (mRet (.int 2)))) (gtTup 2 (gtCons (gtName 7) (gtCons (gtName 8) gtNil))))
    (gSeq (gSet 8 (mIf (mOr (mTest (mUn (fun d => some (.bool (dIsN d))) (mVarB 8))) (mAnd (mTest (mUn (fun d => some (.bool (!dIsN d))) (mVarB 4))) (mTest (mBind (mCons (mVar 4) (mCons (mVar 8) (mRet []))) fun ds => mO (F_is_below (ds ++ [])))))) (mVar 8) (mVar 4)))
    (gAsg (mTup (mCons (mVar 7) (mCons (mVar 8) (mCons (mVar 5) (mCons (mVar 6) (mRet [])))))) (gtSub 2 (mUn dNeg (mRet (.int 1))))))) (gAppend 2 (mTup (mCons (mVar 3) (mCons (mVar 4) (mCons (mVar 5) (mCons (mVar 6) (mRet [])))))))))
    (gRet (mUn dTupOf (mVarB 2)))))))
def F_joined : List D → Option D := runP g_joined 1 10
def g_path_by_lots : MS := (gSeq (gDrop (mBind (mCons (mVar 0) (mRet [])) fun ds => mO (F_need_task (ds ++ []))))
    (gSeq (gSet 1 (mBind (mLc [2] (mItems (mBind (mCons (mUn dLen (mOp dIx (mVarB 0) (mRet (.int 3)))) (mCons (mUn dLen (mOp dIx (mVarB 0) (mRet (.int 0)))) (mRet []))) fun ds => mO (F_lots (ds ++ [])))) (gtName 2) (mRet true) (mBind (mCons (mVar 0) (mCons (mVar 2) (mRet []))) fun ds => mO (F_piece_of (ds ++ [])))) fun ds => mRet (.list ds)))
    (gRet (mBind (mCons (mBind (mLc [3] (mItems (mVarB 1)) (gtName 3) (mTest (mUn (fun d => some (.bool (!dIsN d))) (mVarB 3))) (mVar 3)) fun ds => mRet (.list ds)) (mRet [])) fun ds => mO (F_joined (ds ++ []))))))
def F_path_by_lots : List D → Option D := runP g_path_by_lots 1 4
def g_a_share : MS := (gSeq (gAsg (mVar 0) (gtTup 4 (gtCons (gtName 1) (gtCons (gtName 2) (gtCons (gtName 3) (gtCons (gtName 4) gtNil))))))
    (gSeq (gSet 5 (mUn dLen (mVarB 1)))
    (gSeq (gSet 6 (mOp dCatT (mUn dTupOf (mBind (mLc [9] (mItems (mVarB 1)) (gtName 9) (mRet true) (mTup (mStar (mVarB 9) (mCons (mRet (.int 0)) (mRet []))))) fun ds => mRet (.list ds))) (mTup (mCons (mOp dCatT (mOp dRepT2 (mTup (mCons (mRet (.int 0)) (mRet []))) (mVarB 5)) (mTup (mCons (mRet (.int 1)) (mRet [])))) (mRet [])))))
    (gSeq (gSet 7 (mUn dTupOf (mBind (mLc [10, 11, 12] (mItems (mVarB 4)) (gtTup 3 (gtCons (gtName 10) (gtCons (gtName 11) (gtCons (gtName 12) gtNil)))) (mRet true) (mTup (mCons (mTup (mStar (mVarB 10) (mCons (mUn dNeg (mVarB 12)) (mRet [])))) (mCons (mVar 11) (mCons (mRet (.int 0)) (mRet [])))))) fun ds => mRet (.list ds))))
    (gSeq (gSet 8 (mOp dIx (mBind (mCons (mTup (mCons (mVar 6) (mCons (mTup (mStar (mVarB 2) (mCons (mRet (.int 0)) (mRet [])))) (mCons (mTup (mStar (mVarB 3) (mCons (mRet (.int 0)) (mRet [])))) (mCons (mVar 7) (mRet [])))))) (mCons (mRet (.tuple [.int 0, .int 1])) (mRet []))) fun ds => mO (F_by_holding (ds ++ []))) (mRet (.int 0))))
    (gRet (mIf (mTest (mUn (fun d => some (.bool (!dIsN d))) (mVarB 8))) (mOp dIx (mVarB 8) (mVarB 5)) (mRet .none))))))))
def F_a_share : List D → Option D := runP g_a_share 1 13
def g_just_held : MS := (gRet (mBind (mLc [3, 4] (mEnum (mBind (mCons (mVar 0) (mCons (mVar 1) (mCons (mVar 2) (mRet [])))) fun ds => mO (F_gaps_of (ds ++ [])))) (gtTup 2 (gtCons (gtName 3) (gtCons (gtName 4) gtNil))) (mTest (mOp dEq (mOp dIx (mVarB 4) (mRet (.int 0))) (mRet (.int 0)))) (mVar 3)) fun ds => mRet (.list ds)))
def F_just_held : List D → Option D := runP g_just_held 3 5
def g_next_piece : MS := (gSeq (gSet 3 (mBind (mCons (mVar 0) (mCons (mVar 1) (mCons (mOp dIx (mBind (mCons (mVar 0) (mCons (mVar 1) (mRet []))) fun ds => mO (F_by_holding (ds ++ []))) (mRet (.int 0))) (mRet [])))) fun ds => mO (F_just_held (ds ++ []))))
    (gSeq (gFor (mItems (mBind (mCons (mUn dLen (mVarB 3)) (mCons (mUn dLen (mOp dIx (mVarB 0) (mRet (.int 0)))) (mRet []))) fun ds => mO (F_lots (ds ++ [])))) (gtName 4) (gSeq (gSet 5 (mBind (mCons (mVar 0) (mCons (mBind (mLc [10] (mItems (mVarB 4)) (gtName 10) (mRet true) (mOp dIx (mVarB 3) (mVarB 10))) fun ds => mRet (.list ds)) (mRet []))) fun ds => mO (F_piece_of (ds ++ []))))
    (gIf (mTest (mUn (fun d => some (.bool (!dIsN d))) (mVarB 5))) (gSeq (gAsg (mSl (mVarB 5) (mRet none) (mPart (mRet (.int 2)))) (gtTup 2 (gtCons (gtName 6) (gtCons (gtName 7) gtNil))))
    (gSeq (gSet 8 (mOrV (mUn (fun d => some (.bool (dIsN d))) (mVarB 7)) (mBind (mCons (mVar 1) (mCons (mVar 7) (mRet []))) fun ds => mO (F_is_below (ds ++ [])))))
    (gSeq (gSet 9 (mOrV (mUn (fun d => some (.bool (dIsN d))) (mVarB 6)) (mBind (mCons (mVar 6) (mCons (mVar 1) (mRet []))) fun ds => mO (F_is_below (ds ++ [])))))
    (gIf (mOr (mAnd (mTest (mOp dGt (mVarB 2) (mRet (.int 0)))) (mAnd (mTest (mVar 8)) (mOr (mTest (mVar 9)) (mTest (mOp dEq (mVarB 6) (mVarB 1)))))) (mAnd (mTest (mOp dLt (mVarB 2) (mRet (.int 0)))) (mAnd (mTest (mVar 9)) (mOr (mTest (mVar 8)) (mTest (mOp dEq (mVarB 7) (mVarB 1))))))) (gRet (mVar 5)) gSkip)))) gSkip)))
    (gRet (mRet .none))))
def F_next_piece : List D → Option D := runP g_next_piece 3 11
def fuel_walked : Ev → Nat := fun _ => 1000
def g_walked : MS := (gSeq (gSetO 3 (mLst (mRet [])))
    (gSeq (gWhile fuel_walked (mTest (mUn (fun d => some (.bool (!dIsN d))) (mVarB 1))) (gSeq (gSet 4 (mBind (mCons (mVar 0) (mCons (mVar 1) (mCons (mVar 2) (mRet [])))) fun ds => mO (F_next_piece (ds ++ []))))
    (gSeq (gIf (mTest (mUn (fun d => some (.bool (dIsN d))) (mVarB 4))) (gFz 3 (gRet (mVar 3))) gSkip)
    (gSeq (gAppend 3 (mVar 4))
    (gSet 1 (mIf (mTest (mOp dGt (mVarB 2) (mRet (.int 0)))) (mOp dIx (mVarB 4) (mRet (.int 1))) (mOp dIx (mVarB 4) (mRet (.int 0)))))))))
    (gFz 3 (gRet (mVar 3)))))
def F_walked : List D → Option D := runP g_walked 3 5
def g_path : MS := (gSeq (gDrop (mBind (mCons (mVar 0) (mRet [])) fun ds => mO (F_need_task (ds ++ []))))
    (gSeq (gSet 1 (mBind (mCons (mVar 0) (mRet [])) fun ds => mO (F_a_share (ds ++ []))))
    (gSeq (gIf (mTest (mUn (fun d => some (.bool (dIsN d))) (mVarB 1))) (gRet (mTup (mRet []))) gSkip)
    (gSeq (gSet 2 (mBind (mOpF dCat (mBind (mCons (mVar 0) (mCons (mVar 1) (mCons (mRet (.int 1)) (mRet [])))) fun ds => mO (F_walked (ds ++ []))) (mBind (mCons (mVar 0) (mCons (mVar 1) (mCons (mUn dNeg (mRet (.int 1))) (mRet [])))) fun ds => mO (F_walked (ds ++ [])))) fun ds => mRet (.list ds)))
    (gSeq (gIf (mTest (mOp dEq (mVarB 2) (mBind (mLst (mRet [])) fun ds => mRet (.list ds)))) (gRet (mTup (mCons (mTup (mCons (mVar 1) (mCons (mVar 1) (mCons (mUn dTupOf (mOp dIx (mBind (mCons (mVar 0) (mCons (mVar 1) (mRet []))) fun ds => mO (F_by_holding (ds ++ []))) (mRet (.int 0)))) (mCons (mOp dRepT2 (mTup (mCons (mRet (.tuple [.int 0, .int 1])) (mRet []))) (mUn dLen (mOp dIx (mVarB 0) (mRet (.int 0))))) (mRet [])))))) (mRet [])))) gSkip)
    (gRet (mBind (mCons (mVar 2) (mRet [])) fun ds => mO (F_joined (ds ++ [])))))))))
def F_path : List D → Option D := runP g_path 1 3
def g_worths : MS := (gSeq (gSetO 1 (mLst (mRet [])))
    (gSeq (gFor (mItems (mBind (mCons (mVar 0) (mRet [])) fun ds => mO (F_path (ds ++ [])))) (gtTup 4 (gtCons (gtName 2) (gtCons (gtName 3) (gtCons (gtName 4) (gtCons (gtName 5) gtNil))))) (gSeq (gPar3 6 7 8 (mRet (.tuple [.int 0, .int 1])) (mRet (.tuple [.int 0, .int 1])) (mRet (.tuple [.int 0, .int 1])))
    (gSeq (gFor (mEnum (mOp dIx (mVarB 0) (mRet (.int 0)))) (gtTup 2 (gtCons (gtName 9) (gtCons (gtName 10) gtNil))) (gSeq (gPar 11 12 (mBind (mBind (mCons (mVar 10) (mCons (mVar 4) (mRet []))) fun ds => mO (F_inner (ds ++ []))) fun d => mRet (.s d)) (mBind (mBind (mCons (mVar 10) (mCons (mVar 5) (mRet []))) fun ds => mO (F_inner (ds ++ []))) fun d => mRet (.s d)))
    (gSeq (gSet 6 (mBind (mCons (mVar 6) (mCons (mBind (mCons (mOp dIx (mVarB 4) (mVarB 9)) (mCons (mBind (mCons (mBind (mCons (mVar 11) (mCons (mTup (mCons (mRet (.int 2)) (mCons (mRet (.int 1)) (mRet [])))) (mRet []))) fun ds => mO (F_over (ds ++ []))) (mCons (mTup (mCons (mOp dIx (mOp dIx (mVarB 0) (mRet (.int 1))) (mVarB 9)) (mCons (mRet (.int 1)) (mRet [])))) (mRet []))) fun ds => mO (F_plus (ds ++ []))) (mRet []))) fun ds => mO (F_times (ds ++ []))) (mRet []))) fun ds => mO (F_plus (ds ++ []))))
    (gSeq (gSet 7 (mBind (mCons (mVar 7) (mCons (mBind (mCons (mBind (mCons (mOp dIx (mVarB 5) (mVarB 9)) (mCons (mBind (mCons (mVar 11) (mCons (mTup (mCons (mOp dIx (mOp dIx (mVarB 0) (mRet (.int 1))) (mVarB 9)) (mCons (mRet (.int 1)) (mRet [])))) (mRet []))) fun ds => mO (F_plus (ds ++ []))) (mRet []))) fun ds => mO (F_times (ds ++ []))) (mCons (mBind (mCons (mOp dIx (mVarB 4) (mVarB 9)) (mCons (mTup (mCons (mOp dIx (mOp dIx (mVarB 0) (mRet (.int 2))) (mVarB 9)) (mCons (mRet (.int 1)) (mRet [])))) (mRet []))) fun ds => mO (F_times (ds ++ []))) (mRet []))) fun ds => mO (F_plus (ds ++ []))) (mRet []))) fun ds => mO (F_plus (ds ++ []))))
    (gSet 8 (mBind (mCons (mVar 8) (mCons (mBind (mCons (mOp dIx (mVarB 5) (mVarB 9)) (mCons (mBind (mCons (mBind (mCons (mVar 12) (mCons (mTup (mCons (mRet (.int 2)) (mCons (mRet (.int 1)) (mRet [])))) (mRet []))) fun ds => mO (F_over (ds ++ []))) (mCons (mTup (mCons (mOp dIx (mOp dIx (mVarB 0) (mRet (.int 2))) (mVarB 9)) (mCons (mRet (.int 1)) (mRet [])))) (mRet []))) fun ds => mO (F_plus (ds ++ []))) (mRet []))) fun ds => mO (F_times (ds ++ []))) (mRet []))) fun ds => mO (F_plus (ds ++ []))))))))
    (gAppend 1 (mTup (mCons (mVar 2) (mCons (mVar 3) (mCons (mVar 6) (mCons (mVar 7) (mCons (mVar 8) (mRet [])))))))))))
    (gRet (mUn dTupOf (mVarB 1)))))
def F_worths : List D → Option D := runP g_worths 1 13
def g_frontier : MS := (gSeq (gSet 3 (mIf (mTest (mUn (dIsi "tuple") (mVarB 0))) (mUn dLen (mVarB 0)) (mRet (.int 0))))
    (gSeq (gIf (mOr (mNot (mTest (mBind (mCons (mVar 2) (mCons (mVar 3) (mRet []))) fun ds => mO (F_is_row (ds ++ []))))) (mNot (mTest (mUn (dIsi "tuple") (mVarB 1))))) gNone gSkip)
    (gSeq (gSetO 4 (mLst (mRet [])))
    (gSeq (gFor (mItems (mVarS 1)) (gtName 5) (gSeq (gIf (mOr (mNot (mTest (mUn (dIsi "tuple") (mVarB 5)))) (mOr (mTest (mOp dNe (mUn dLen (mVarB 5)) (mRet (.int 2)))) (mNot (mTest (mBind (mCons (mOp dIx (mVarB 5) (mRet (.int 1))) (mRet [])) fun ds => mO (F_is_small (ds ++ []))))))) gNone gSkip)
    (gAppend 4 (mTup (mCons (mOp dIx (mVarB 5) (mRet (.int 0))) (mCons (mOp dIx (mVarB 5) (mRet (.int 1))) (mCons (mRet (.int 0)) (mRet []))))))))
    (gSeq (gSet 6 (mTup (mCons (mVar 0) (mCons (mOp dRepT2 (mTup (mCons (mRet (.int 0)) (mRet []))) (mVarB 3)) (mCons (mOp dRepT2 (mTup (mCons (mRet (.int 0)) (mRet []))) (mVarB 3)) (mCons (mTup (mStar (mVarB 4) (mCons (mTup (mCons (mVar 2) (mCons (mRet (.int 0)) (mCons (mRet (.int 1)) (mRet []))))) (mRet [])))) (mRet [])))))))
    (gSeq (gDrop (mBind (mCons (mVar 6) (mRet [])) fun ds => mO (F_need_task (ds ++ []))))
    (gRet (mVar 6))))))))
def F_frontier : List D → Option D := runP g_frontier 3 7
def g_need_shape : MS := (gSeq (gIf (mOr (mNot (mTest (mUn (dIsi "tuple") (mVarB 1)))) (mOr (mNot (mTest (mChain dLe dLe (mRet (.int 1)) (mUn dLen (mVarB 1)) (mRet (.int 4))))) (mNot (mTest (mBind (mCons (mVar 1) (mCons (mUn dLen (mVarB 1)) (mRet []))) fun ds => mO (F_is_row (ds ++ []))))))) gNone gSkip)
    (gSeq (gIf (mOr (mNot (mTest (mUn (dIsi "tuple") (mVarB 0)))) (mTest (mOp dGt (mUn dLen (mVarB 0)) (mRet (.int 8))))) gNone gSkip)
    (gFor (mItems (mVarS 0)) (gtName 2) (gIf (mOr (mNot (mTest (mUn (dIsi "tuple") (mVarB 2)))) (mOr (mTest (mOp dNe (mUn dLen (mVarB 2)) (mRet (.int 2)))) (mOr (mNot (mTest (mBind (mCons (mOp dIx (mVarB 2) (mRet (.int 0))) (mCons (mUn dLen (mVarB 1)) (mRet []))) fun ds => mO (F_is_row (ds ++ []))))) (mNot (mTest (mBind (mCons (mOp dIx (mVarB 2) (mRet (.int 1))) (mRet [])) fun ds => mO (F_is_small (ds ++ [])))))))) gNone gSkip))))
def F_need_shape : List D → Option D := runP g_need_shape 2 3
def g_unit : MS := (gRet (mUn dTupOf (mBind (mLc [1] (mRange1 (mVar 0)) (gtName 1) (mRet true) (mUn dTupOf (mBind (mLc [2] (mRange1 (mVar 0)) (gtName 2) (mRet true) (mIf (mTest (mOp dEq (mVarB 1) (mVarB 2))) (mRet (.int 1)) (mRet (.int 0)))) fun ds => mRet (.list ds)))) fun ds => mRet (.list ds))))
def F_unit : List D → Option D := runP g_unit 1 3
def g_nearest_of : MS := (gSeq (gSet 2 (mUn dLen (mVarB 1)))
    (gSeq (gSet 3 (mUn dTupOf (mBind (mLc [4, 5] (mItems (mVarB 0)) (gtTup 2 (gtCons (gtName 4) (gtCons (gtName 5) gtNil))) (mRet true) (mTup (mCons (mVar 4) (mCons (mVar 5) (mCons (mRet (.int 0)) (mRet [])))))) fun ds => mRet (.list ds))))
    (gRet (mOp dIx (mBind (mCons (mTup (mCons (mBind (mCons (mVar 2) (mRet [])) fun ds => mO (F_unit (ds ++ []))) (mCons (mUn dTupOf (mBind (mLc [6] (mItems (mVarB 1)) (gtName 6) (mRet true) (mUn dNeg (mVarB 6))) fun ds => mRet (.list ds))) (mCons (mOp dRepT2 (mTup (mCons (mRet (.int 0)) (mRet []))) (mVarB 2)) (mCons (mVar 3) (mRet [])))))) (mCons (mRet (.tuple [.int 0, .int 1])) (mRet []))) fun ds => mO (F_by_holding (ds ++ []))) (mRet (.int 0))))))
def F_nearest_of : List D → Option D := runP g_nearest_of 2 7
def g_nearest : MS := (gSeq (gDrop (mBind (mCons (mVar 0) (mCons (mVar 1) (mRet []))) fun ds => mO (F_need_shape (ds ++ []))))
    (gRet (mBind (mCons (mVar 0) (mCons (mVar 1) (mRet []))) fun ds => mO (F_nearest_of (ds ++ [])))))
def F_nearest : List D → Option D := runP g_nearest 2 2
def g_apart : MS := (gSeq (gDrop (mBind (mCons (mVar 0) (mCons (mVar 1) (mRet []))) fun ds => mO (F_need_shape (ds ++ []))))
    (gSeq (gSet 2 (mBind (mCons (mVar 0) (mCons (mVar 1) (mRet []))) fun ds => mO (F_nearest_of (ds ++ []))))
    (gSeq (gIf (mTest (mUn (fun d => some (.bool (dIsN d))) (mVarB 2))) (gRet (mRet .none)) gSkip)
    (gSeq (gSet 3 (mRet (.tuple [.int 0, .int 1])))
    (gSeq (gFor (mZip2 (mVarS 1) (mVarS 2)) (gtTup 2 (gtCons (gtName 4) (gtCons (gtName 5) gtNil))) (gSeq (gSet 6 (mBind (mCons (mTup (mCons (mVar 4) (mCons (mRet (.int 1)) (mRet [])))) (mCons (mVar 5) (mRet []))) fun ds => mO (F_less (ds ++ []))))
    (gSet 3 (mBind (mCons (mVar 3) (mCons (mBind (mCons (mVar 6) (mCons (mVar 6) (mRet []))) fun ds => mO (F_times (ds ++ []))) (mRet []))) fun ds => mO (F_plus (ds ++ []))))))
    (gRet (mVar 3)))))))
def F_apart : List D → Option D := runP g_apart 2 7
def g_wall : MS := (gSeq (gDrop (mBind (mCons (mVar 0) (mCons (mVar 1) (mRet []))) fun ds => mO (F_need_shape (ds ++ []))))
    (gSeq (gSet 2 (mBind (mCons (mVar 0) (mCons (mVar 1) (mRet []))) fun ds => mO (F_nearest_of (ds ++ []))))
    (gSeq (gIf (mOr (mTest (mUn (fun d => some (.bool (dIsN d))) (mVarB 2))) (mTest (mOp dEq (mVarB 2) (mUn dTupOf (mBind (mLc [10] (mItems (mVarB 1)) (gtName 10) (mRet true) (mTup (mCons (mVar 10) (mCons (mRet (.int 1)) (mRet []))))) fun ds => mRet (.list ds)))))) (gRet (mRet .none)) gSkip)
    (gSeq (gSet 3 (mBind (mLc [10, 11] (mZip2 (mVarB 1) (mVarB 2)) (gtTup 2 (gtCons (gtName 10) (gtCons (gtName 11) gtNil))) (mRet true) (mBind (mCons (mVar 11) (mCons (mTup (mCons (mVar 10) (mCons (mRet (.int 1)) (mRet [])))) (mRet []))) fun ds => mO (F_less (ds ++ [])))) fun ds => mRet (.list ds)))
    (gSeq (gSet 4 (mRet (.int 1)))
    (gSeq (gFor (mItems (mVarS 3)) (gtTup 2 (gtCons (gtName 5) (gtCons (gtName 6) gtNil))) (gSet 4 (mOp dDiv (mOp dMul (mVarB 4) (mVarB 6)) (mBind (mCons (mVar 4) (mCons (mVar 6) (mRet []))) fun ds => mO (F_common (ds ++ []))))))
    (gSeq (gSet 7 (mBind (mLc [5, 6] (mItems (mVarB 3)) (gtTup 2 (gtCons (gtName 5) (gtCons (gtName 6) gtNil))) (mRet true) (mOp dMul (mVarB 5) (mOp dDiv (mVarB 4) (mVarB 6)))) fun ds => mRet (.list ds)))
    (gSeq (gSet 8 (mBind (mCons (mVar 7) (mCons (mVar 2) (mRet []))) fun ds => mO (F_inner (ds ++ []))))
    (gSeq (gSet 7 (mBind (mLc [10] (mItems (mVarB 7)) (gtName 10) (mRet true) (mOp dMul (mVarB 10) (mOp dIx (mVarB 8) (mRet (.int 1))))) fun ds => mRet (.list ds)))
    (gSeq (gSet 9 (mBind (mCons (mOp dIx (mVarB 8) (mRet (.int 0))) (mCons (mRet (.int 0)) (mRet []))) fun ds => mO (F_common (ds ++ []))))
    (gSeq (gFor (mItems (mVarS 7)) (gtName 10) (gSet 9 (mBind (mCons (mVar 9) (mCons (mVar 10) (mRet []))) fun ds => mO (F_common (ds ++ [])))))
    (gRet (mTup (mCons (mUn dTupOf (mBind (mLc [10] (mItems (mVarB 7)) (gtName 10) (mRet true) (mOp dDiv (mVarB 10) (mVarB 9))) fun ds => mRet (.list ds))) (mCons (mOp dDiv (mOp dIx (mVarB 8) (mRet (.int 0))) (mVarB 9)) (mRet []))))))))))))))))
def F_wall : List D → Option D := runP g_wall 2 12
def fuel_law_part : Ev → Nat := fun _ => 1000
def g_law_part : MS := (gSeq (gSet 1 (mRet (.int 0)))
    (gSeq (gFor (mItems (mVarS 0)) (gtName 2) (gSeq (gPar 3 4 (mBind (mOp dMax2 (mVarB 2) (mOp dSub (mRet (.int 0)) (mVarB 2))) fun d => mRet (.s d)) (mBind (mVar 1) fun d => mRet (.s d)))
    (gSeq (gWhile fuel_law_part (mTest (mOp dNe (mVarB 4) (mRet (.int 0)))) (gPar 3 4 (mBind (mVar 4) fun d => mRet (.s d)) (mBind (mOp dMod (mVarB 3) (mVarB 4)) fun d => mRet (.s d))))
    (gSet 1 (mVar 3)))))
    (gRet (mVar 1))))
def F_law_part : List D → Option D := runP g_law_part 1 5
def g_rising : MS := (gSeq (gIf (mOr (mNot (mTest (mUn (dIsi "tuple") (mVarB 0)))) (mOr (mNot (mTest (mChain dLe dLe (mRet (.int 1)) (mUn dLen (mVarB 0)) (mRet (.int 4))))) (mNot (mTest (mBind (mCons (mVar 0) (mCons (mUn dLen (mVarB 0)) (mRet []))) fun ds => mO (F_is_row (ds ++ []))))))) gNone gSkip)
    (gSeq (gIf (mOr (mNot (mTest (mBind (mCons (mVar 1) (mCons (mUn dLen (mVarB 0)) (mRet []))) fun ds => mO (F_is_row (ds ++ []))))) (mNot (mTest (mUn dAll (mBind (mLc [7] (mItems (mVarB 1)) (gtName 7) (mRet true) (mOp dGt (mVarB 7) (mRet (.int 0)))) fun ds => mRet (.list ds)))))) gNone gSkip)
    (gSeq (gSet 2 (mUn dLen (mVarB 0)))
    (gSeq (gSet 3 (mUn dTupOf (mBind (mLc [5] (mRange1 (mVar 2)) (gtName 5) (mRet true) (mUn dTupOf (mBind (mLc [8] (mRange1 (mVar 2)) (gtName 8) (mRet true) (mIf (mTest (mOp dEq (mVarB 5) (mVarB 8))) (mOp dIx (mVarB 1) (mVarB 5)) (mRet (.int 0)))) fun ds => mRet (.list ds)))) fun ds => mRet (.list ds))))
    (gSeq (gSetO 4 (mLst (mRet [])))
    (gSeq (gFor (mRange1 (mOp dSub (mVarB 2) (mRet (.int 1)))) (gtName 5) (gAppend 4 (mTup (mCons (mUn dTupOf (mBind (mLc [8] (mRange1 (mVar 2)) (gtName 8) (mRet true) (mIf (mTest (mOp dEq (mVarB 8) (mOp dAddI (mVarB 5) (mRet (.int 1))))) (mRet (.int 1)) (mIf (mTest (mOp dEq (mVarB 8) (mVarB 5))) (mUn dNeg (mRet (.int 1))) (mRet (.int 0))))) fun ds => mRet (.list ds))) (mCons (mRet (.int 0)) (mCons (mRet (.int 0)) (mRet [])))))))
    (gSeq (gSet 6 (mUn dTupOf (mBind (mLc [7, 9] (mZip2 (mVarB 0) (mVarB 1)) (gtTup 2 (gtCons (gtName 7) (gtCons (gtName 9) gtNil))) (mRet true) (mOp dMul (mUn dNeg (mVarB 7)) (mVarB 9))) fun ds => mRet (.list ds))))
    (gRet (mOp dIx (mBind (mCons (mTup (mCons (mVar 3) (mCons (mVar 6) (mCons (mOp dRepT2 (mTup (mCons (mRet (.int 0)) (mRet []))) (mVarB 2)) (mCons (mUn dTupOf (mVarB 4)) (mRet [])))))) (mCons (mRet (.tuple [.int 0, .int 1])) (mRet []))) fun ds => mO (F_by_holding (ds ++ []))) (mRet (.int 0)))))))))))
def F_rising : List D → Option D := runP g_rising 2 10
def g_is_there : MS := (gRet (mUn dAll (mBind (mLc [4, 5, 6] (mZip3 (mVarB 0) (mVarB 1) (mVarB 3)) (gtTup 3 (gtCons (gtName 4) (gtCons (gtName 5) (gtCons (gtName 6) gtNil)))) (mRet true) (mOp dEq (mBind (mCons (mVar 4) (mCons (mBind (mCons (mVar 2) (mCons (mVar 5) (mRet []))) fun ds => mO (F_times (ds ++ []))) (mRet []))) fun ds => mO (F_plus (ds ++ []))) (mVarB 6))) fun ds => mRet (.list ds))))
def F_is_there : List D → Option D := runP g_is_there 4 7
def g_unlike : MS := (gSeq (gSetO 1 (mLst (mRet [])))
    (gSeq (gFor (mItems (mVarS 0)) (gtTup 2 (gtCons (gtName 2) (gtCons (gtName 3) gtNil))) (gIf (mAnd (mTest (mOp dNe (mVarB 1) (mBind (mLst (mRet [])) fun ds => mRet (.list ds)))) (mAnd (mTest (mUn (fun d => some (.bool (!dIsN d))) (mVarB 2))) (mTest (mOp dEq (mOp dIx (mOp dIx (mVarB 1) (mUn dNeg (mRet (.int 1)))) (mRet (.int 1))) (mVarB 2))))) (gIf (mTest (mOp dNe (mVarB 2) (mVarB 3))) (gAsg (mIf (mTest (mOp dNe (mOp dIx (mOp dIx (mVarB 1) (mUn dNeg (mRet (.int 1)))) (mRet (.int 0))) (mOp dIx (mOp dIx (mVarB 1) (mUn dNeg (mRet (.int 1)))) (mRet (.int 1))))) (mTup (mCons (mOp dIx (mOp dIx (mVarB 1) (mUn dNeg (mRet (.int 1)))) (mRet (.int 0))) (mCons (mVar 3) (mRet [])))) (mTup (mCons (mVar 2) (mCons (mVar 3) (mRet []))))) (gtSub 1 (mUn dNeg (mRet (.int 1))))) gSkip) (gAppend 1 (mTup (mCons (mVar 2) (mCons (mVar 3) (mRet [])))))))
    (gFz 1 (gRet (mVar 1)))))
def F_unlike : List D → Option D := runP g_unlike 1 4
def g_where_best : MS := (gSeq (gDrop (mBind (mCons (mVar 0) (mRet [])) fun ds => mO (F_need_task (ds ++ []))))
    (gSeq (gDrop (mBind (mCons (mVar 1) (mCons (mUn dLen (mOp dIx (mVarB 0) (mRet (.int 0)))) (mRet []))) fun ds => mO (F_need_plan (ds ++ []))))
    (gSeq (gSetO 2 (mLst (mRet [])))
    (gSeq (gFor (mItems (mBind (mCons (mVar 0) (mRet [])) fun ds => mO (F_path (ds ++ [])))) (gtTup 4 (gtCons (gtName 3) (gtCons (gtName 4) (gtCons (gtName 5) (gtCons (gtName 6) gtNil))))) (gSeq (gSet 7 (mBind (mLc [8, 11] (mEnum (mVarB 6)) (gtTup 2 (gtCons (gtName 8) (gtCons (gtName 11) gtNil))) (mTest (mOp dNe (mOp dIx (mVarB 11) (mRet (.int 0))) (mRet (.int 0)))) (mVar 8)) fun ds => mRet (.list ds)))
    (gIf (mTest (mOp dEq (mVarB 7) (mBind (mLst (mRet [])) fun ds => mRet (.list ds)))) (gIf (mTest (mOp dEq (mVarB 5) (mVarB 1))) (gAppend 2 (mTup (mCons (mVar 3) (mCons (mVar 4) (mRet []))))) gSkip) (gSeq (gSet 8 (mOp dIx (mVarB 7) (mRet (.int 0))))
    (gSeq (gSet 9 (mBind (mCons (mBind (mCons (mOp dIx (mVarB 1) (mVarB 8)) (mCons (mOp dIx (mVarB 5) (mVarB 8)) (mRet []))) fun ds => mO (F_less (ds ++ []))) (mCons (mOp dIx (mVarB 6) (mVarB 8)) (mRet []))) fun ds => mO (F_over (ds ++ []))))
    (gSeq (gSet 10 (mAndV (mOrV (mUn (fun d => some (.bool (dIsN d))) (mVarB 3)) (mNotV (mBind (mCons (mVar 9) (mCons (mVar 3) (mRet []))) fun ds => mO (F_is_below (ds ++ []))))) (mOrV (mUn (fun d => some (.bool (dIsN d))) (mVarB 4)) (mNotV (mBind (mCons (mVar 4) (mCons (mVar 9) (mRet []))) fun ds => mO (F_is_below (ds ++ [])))))))
    (gIf (mAnd (mTest (mVar 10)) (mTest (mBind (mCons (mVar 5) (mCons (mVar 6) (mCons (mVar 9) (mCons (mVar 1) (mRet []))))) fun ds => mO (F_is_there (ds ++ []))))) (gAppend 2 (mTup (mCons (mVar 9) (mCons (mVar 9) (mRet []))))) gSkip)))))))
    (gFz 2 (gRet (mUn dTupOf (mBind (mCons (mVar 2) (mRet [])) fun ds => mO (F_unlike (ds ++ []))))))))))
def F_where_best : List D → Option D := runP g_where_best 2 12
def g_is_alike : MS := (gSeq (gDrop (mBind (mCons (mVar 0) (mRet [])) fun ds => mO (F_need_task (ds ++ []))))
    (gSeq (gDrop (mBind (mCons (mVar 1) (mRet [])) fun ds => mO (F_need_task (ds ++ []))))
    (gRet (mIf (mTest (mOp dEq (mUn dLen (mOp dIx (mVarB 0) (mRet (.int 0)))) (mUn dLen (mOp dIx (mVarB 1) (mRet (.int 0)))))) (mOp dEq (mBind (mCons (mVar 0) (mRet [])) fun ds => mO (F_path (ds ++ []))) (mBind (mCons (mVar 1) (mRet [])) fun ds => mO (F_path (ds ++ [])))) (mRet (.bool false))))))
def F_is_alike : List D → Option D := runP g_is_alike 2 2
def g_products : MS := (gSeq (gSetO 1 (mLst (mRet [])))
    (gSeq (gFor (mItems (mVarS 0)) (gtName 2) (gAppend 1 (mBind (mLc [3] (mItems (mVarB 0)) (gtName 3) (mRet true) (mTup (mCons (mUn dSum (mBind (mLc [4, 5] (mZip2 (mVarB 2) (mVarB 3)) (gtTup 2 (gtCons (gtName 4) (gtCons (gtName 5) gtNil))) (mRet true) (mOp dMul (mVarB 4) (mVarB 5))) fun ds => mRet (.list ds))) (mCons (mRet (.int 1)) (mRet []))))) fun ds => mRet (.list ds))))
    (gFz 1 (gRet (mVar 1)))))
def F_products : List D → Option D := runP g_products 1 6
def g_need_fit : MS := (gSeq (gIf (mOr (mNot (mTest (mUn (dIsi "tuple") (mVarB 1)))) (mOr (mNot (mTest (mChain dLe dLe (mRet (.int 1)) (mUn dLen (mVarB 1)) (mRet (.int 4))))) (mNot (mTest (mBind (mCons (mVar 1) (mCons (mUn dLen (mVarB 1)) (mRet []))) fun ds => mO (F_is_row (ds ++ []))))))) gNone gSkip)
    (gSeq (gIf (mOr (mNot (mTest (mUn (dIsi "tuple") (mVarB 0)))) (mNot (mTest (mChain dLe dLe (mRet (.int 1)) (mUn dLen (mVarB 0)) (mRet (.int 3)))))) gNone gSkip)
    (gSeq (gIf (mNot (mTest (mUn dAll (mBind (mLc [2] (mItems (mVarB 0)) (gtName 2) (mRet true) (mBind (mCons (mVar 2) (mCons (mUn dLen (mVarB 1)) (mRet []))) fun ds => mO (F_is_row (ds ++ [])))) fun ds => mRet (.list ds))))) gNone gSkip)
    (gIf (mTest (mUn (fun d => some (.bool (dIsN d))) (mBind (mCons (mBind (mCons (mVar 0) (mRet [])) fun ds => mO (F_products (ds ++ []))) (mCons (mBind (mLst (mRet [])) fun ds => mRet (.list ds)) (mRet []))) fun ds => mO (F_solved (ds ++ []))))) gNone gSkip))))
def F_need_fit : List D → Option D := runP g_need_fit 2 3
def g_rest_task : MS := (gSeq (gPar 2 3 (mBind (mUn dLen (mVarB 1)) fun d => mRet (.s d)) (mBind (mLst (mRet [])) fun d => mRet (.o d)))
    (gSeq (gFor (mItems (mVarS 0)) (gtName 4) (gSeq (gAppend 3 (mTup (mCons (mVar 4) (mCons (mRet (.int 0)) (mCons (mUn dNeg (mRet (.int 1))) (mRet []))))))
    (gAppend 3 (mTup (mCons (mUn dTupOf (mBind (mLc [5] (mItems (mVarB 4)) (gtName 5) (mRet true) (mUn dNeg (mVarB 5))) fun ds => mRet (.list ds))) (mCons (mRet (.int 0)) (mCons (mUn dNeg (mRet (.int 1))) (mRet []))))))))
    (gRet (mTup (mCons (mBind (mCons (mVar 2) (mRet [])) fun ds => mO (F_unit (ds ++ []))) (mCons (mUn dTupOf (mBind (mLc [5] (mItems (mVarB 1)) (gtName 5) (mRet true) (mUn dNeg (mVarB 5))) fun ds => mRet (.list ds))) (mCons (mOp dRepT2 (mTup (mCons (mRet (.int 0)) (mRet []))) (mVarB 2)) (mCons (mUn dTupOf (mVarB 3)) (mRet [])))))))))
def F_rest_task : List D → Option D := runP g_rest_task 2 6
def g_amounts_of : MS := (gRet (mOp dIx (mBind (mCons (mBind (mCons (mVar 0) (mRet [])) fun ds => mO (F_products (ds ++ []))) (mCons (mBind (mLst (mCons (mBind (mLc [2] (mItems (mVarB 0)) (gtName 2) (mRet true) (mBind (mCons (mVar 2) (mCons (mVar 1) (mRet []))) fun ds => mO (F_inner (ds ++ [])))) fun ds => mRet (.list ds)) (mRet []))) fun ds => mRet (.list ds)) (mRet []))) fun ds => mO (F_solved (ds ++ []))) (mRet (.int 0))))
def F_amounts_of : List D → Option D := runP g_amounts_of 2 3
def g_few_path : MS := (gSeq (gDrop (mBind (mCons (mVar 0) (mCons (mVar 1) (mRet []))) fun ds => mO (F_need_fit (ds ++ []))))
    (gSeq (gSetO 2 (mLst (mRet [])))
    (gSeq (gFor (mItems (mBind (mCons (mBind (mCons (mVar 0) (mCons (mVar 1) (mRet []))) fun ds => mO (F_rest_task (ds ++ []))) (mRet [])) fun ds => mO (F_path (ds ++ [])))) (gtTup 4 (gtCons (gtName 3) (gtCons (gtName 4) (gtCons (gtName 5) (gtCons (gtName 6) gtNil))))) (gIf (mOr (mTest (mUn (fun d => some (.bool (dIsN d))) (mVarB 4))) (mTest (mOp dGt (mOp dIx (mVarB 4) (mRet (.int 0))) (mRet (.int 0))))) (gSeq (gSet 3 (mIf (mOr (mTest (mUn (fun d => some (.bool (dIsN d))) (mVarB 3))) (mTest (mBind (mCons (mVar 3) (mCons (mRet (.tuple [.int 0, .int 1])) (mRet []))) fun ds => mO (F_is_below (ds ++ []))))) (mRet (.tuple [.int 0, .int 1])) (mVar 3)))
    (gSeq (gSet 7 (mBind (mLc [9, 10] (mZip2 (mVarB 1) (mVarB 5)) (gtTup 2 (gtCons (gtName 9) (gtCons (gtName 10) gtNil))) (mRet true) (mBind (mCons (mTup (mCons (mVar 9) (mCons (mRet (.int 1)) (mRet [])))) (mCons (mVar 10) (mRet []))) fun ds => mO (F_less (ds ++ [])))) fun ds => mRet (.list ds)))
    (gSeq (gSet 8 (mBind (mLc [10] (mItems (mVarB 6)) (gtName 10) (mRet true) (mBind (mCons (mRet (.tuple [.int 0, .int 1])) (mCons (mVar 10) (mRet []))) fun ds => mO (F_less (ds ++ [])))) fun ds => mRet (.list ds)))
    (gAppend 2 (mTup (mCons (mVar 3) (mCons (mVar 4) (mCons (mUn dTupOf (mBind (mCons (mVar 0) (mCons (mVar 7) (mRet []))) fun ds => mO (F_amounts_of (ds ++ [])))) (mCons (mUn dTupOf (mBind (mCons (mVar 0) (mCons (mVar 8) (mRet []))) fun ds => mO (F_amounts_of (ds ++ [])))) (mRet [])))))))))) gSkip))
    (gFz 2 (gRet (mBind (mCons (mVar 2) (mRet [])) fun ds => mO (F_joined (ds ++ []))))))))
def F_few_path : List D → Option D := runP g_few_path 2 11
def g_first_weight : MS := (gSeq (gDrop (mBind (mCons (mVar 0) (mCons (mVar 1) (mRet []))) fun ds => mO (F_need_fit (ds ++ []))))
    (gRet (mUn dMaxL (mBind (mLc [2] (mItems (mVarB 0)) (gtName 2) (mRet true) (mUn dAbs (mUn dSum (mBind (mLc [3, 4] (mZip2 (mVarB 2) (mVarB 1)) (gtTup 2 (gtCons (gtName 3) (gtCons (gtName 4) gtNil))) (mRet true) (mOp dMul (mVarB 3) (mVarB 4))) fun ds => mRet (.list ds))))) fun ds => mRet (.list ds)))))
def F_first_weight : List D → Option D := runP g_first_weight 2 5
end
end PG


namespace PG
noncomputable section
open PySem PySem.Spec PyProof.Rows L2 DL
def g_law : MS := (gSeq (gSet 2 (mOp dAddI (mRet (.int 1)) (mCallG F_law_taken (mConsRow 1 (mConsS (mRet (.int 4)) (mRet []))))))
    (gSeq (gSet 3 (mCallG F_law_pick (mConsRow 1 (mConsS (mBind (mLst (mCons (mRet (.int 3)) (mCons (mRet (.int 9)) (mCons (mRet (.int 200)) (mRet []))))) fun ds => mRet (.list ds)) (mRet [])))))
    (gSeq (gSet 4 (mUn dTupOf (mBind (mLc [7] (mRange1 (mVar 2)) (gtName 7) (mRet true) (mCallG F_law_number (mConsRow 1 (mConsS (mVar 3) (mRet []))))) fun ds => mRet (.list ds))))
    (gSeq (gSet 5 (mUn dTupOf (mBind (mLc [7] (mRange1 (mVar 2)) (gtName 7) (mRet true) (mOp dAddI (mRet (.int 1)) (mCallG F_law_taken (mConsRow 1 (mConsS (mRet (.int 5)) (mRet [])))))) fun ds => mRet (.list ds))))
    (gSeq (gSetO 6 (mLst (mRet [])))
    (gSeq (gFor (mRange1 (mVar 2)) (gtName 7) (gSeq (gSet 8 (mRet .none))
    (gSeq (gFor (mRange1 (mOp dAddI (mVarB 7) (mRet (.int 1)))) (gtName 9) (gSeq (gSet 10 (mRet .none))
    (gSeq (gFor (mRange2 (mVar 7) (mVar 2)) (gtName 11) (gSeq (gSet 12 (mUn dSum (mBind (mLc [17] (mRange2 (mVar 9) (mOp dAddI (mVarB 11) (mRet (.int 1)))) (gtName 17) (mRet true) (mOp dMul (mOp dIx (mVarB 4) (mVarB 17)) (mOp dIx (mVarB 5) (mVarB 17)))) fun ds => mRet (.list ds))))
    (gSeq (gSet 13 (mBind (mCons (mVar 12) (mCons (mUn dSum (mSl (mVarB 5) (mPart (mVar 9)) (mPart (mOp dAddI (mVarB 11) (mRet (.int 1)))))) (mRet []))) fun ds => mO (F_law_fr (ds ++ []))))
    (gSet 10 (mIf (mOr (mTest (mUn (fun d => some (.bool (dIsN d))) (mVarB 10))) (mTest (mBind (mCons (mVar 13) (mCons (mVar 10) (mRet []))) fun ds => mO (F_law_below (ds ++ []))))) (mVar 13) (mVar 10))))))
    (gSet 8 (mIf (mOr (mTest (mUn (fun d => some (.bool (dIsN d))) (mVarB 8))) (mTest (mBind (mCons (mVar 8) (mCons (mVar 10) (mRet []))) fun ds => mO (F_law_below (ds ++ []))))) (mVar 10) (mVar 8))))))
    (gAppend 6 (mVar 8)))))
    (gSeq (gIf (mNot (mTest (mBind (mCons (mBind (mCons (mVar 4) (mCons (mVar 5) (mRet []))) fun ds => mO (F_rising (ds ++ []))) (mCons (mUn dTupOf (mVarB 6)) (mRet []))) fun ds => mO (F_law_alike (ds ++ []))))) (gRet (mRet (.bool false))) gSkip)
    (gSeq (gSet 14 (mBind (mCons (mUn dTupOf (mUn dSorted (mVarB 4))) (mCons (mVar 5) (mRet []))) fun ds => mO (F_rising (ds ++ []))))
    (gSeq (gIf (mTest (mOp dNe (mVarB 14) (mUn dTupOf (mBind (mLc [18] (mItems (mUn dSorted (mVarB 4))) (gtName 18) (mRet true) (mTup (mCons (mVar 18) (mCons (mRet (.int 1)) (mRet []))))) fun ds => mRet (.list ds))))) (gRet (mRet (.bool false))) gSkip)
    (gSeq (gSet 15 (mCallG F_law_number (mConsRow 1 (mConsS (mRet (.int 9)) (mRet [])))))
    (gSeq (gSet 16 (mBind (mCons (mUn dTupOf (mBind (mLc [18] (mItems (mVarB 4)) (gtName 18) (mRet true) (mOp dAddI (mVarB 18) (mVarB 15))) fun ds => mRet (.list ds))) (mCons (mUn dTupOf (mBind (mLc [18] (mItems (mVarB 5)) (gtName 18) (mRet true) (mOp dMul (mRet (.int 3)) (mVarB 18))) fun ds => mRet (.list ds))) (mRet []))) fun ds => mO (F_rising (ds ++ []))))
    (gRet (mOp dEq (mVarB 16) (mUn dTupOf (mBind (mLc [18] (mItems (mVarB 6)) (gtName 18) (mRet true) (mBind (mCons (mVar 18) (mCons (mTup (mCons (mVar 15) (mCons (mRet (.int 1)) (mRet [])))) (mRet []))) fun ds => mO (F_law_plus (ds ++ [])))) fun ds => mRet (.list ds))))))))))))))))
end
end PG

namespace PX
open PySem L2 DL
/-! ### evaluation of the meanings, from the left -/
def bnd {α β : Type} (x : Option (α × Row)) (k : α → Row → Option β) : Option β := match x with
  | none => none
  | some (a, r) => k a r
theorem bnd_congr {α β : Type} {x y : Option (α × Row)} {k : α → Row → Option β} (h : x = y) : bnd x k = bnd y k := by rw [h]
@[simp] theorem bnd_some {α β : Type} {a : α} {r : Row} {k : α → Row → Option β} : bnd (some (a, r)) k = k a r := (rfl)
section
variable {α β : Type} {f fa fb : MM α} {k : α → MM β} {ρ : Ev} {r : Row} {sl : List Sl} {i j : Nat}
@[simp] theorem e_bind : mBind f k ρ = bnd (f ρ) fun a r => k a (ρ.wr r) := by
  unfold mBind bnd
  cases f ρ <;> rfl
@[simp] theorem e_ret {a : α} : mRet a ρ = some (a, ρ.row) := (rfl)
@[simp] theorem e_oS {a : α} : mO (some a) ρ = some (a, ρ.row) := (rfl)
@[simp] theorem e_wr : Ev.wr ⟨r, sl⟩ j' = ⟨j', sl⟩ := (rfl)
@[simp] theorem e_get : Ev.get ⟨r, sl⟩ i = sl.getD i .no := (rfl)
@[simp] theorem e_set {x : Sl} : Ev.set ⟨r, sl⟩ i x = ⟨r, sl.set i x⟩ := (rfl)
theorem mVar_s {d : D} (h : ρ.get i = .s d) : mVar i ρ = some (d, ρ.row) := by unfold mVar; rw [h]
theorem mVarB_s {d : D} (h : ρ.get i = .s d) : mVarB i ρ = some (d, ρ.row) := by unfold mVarB; rw [h]
theorem mVarB_o {d : List D} (h : ρ.get i = .o d) : mVarB i ρ = some (.list d, ρ.row) := by unfold mVarB; rw [h]
theorem mVarS_s {d : D} (h : ρ.get i = .s d) : mVarS i ρ = some (d, ρ.row) := by unfold mVarS; rw [h]
/-- a slot's reading -/
def slS : Sl → Option D
  | .s d => some d
  | _ => none
def slB : Sl → Option D
  | .s d => some d
  | .o ds => some (.list ds)
  | .b d => some d
  | _ => none
def slL : Sl → Option D
  | .s d => some d
  | .b d => some d
  | _ => none
@[simp] theorem slS_s {d : D} : slS (.s d) = some d := (rfl)
@[simp] theorem slB_s {d : D} : slB (.s d) = some d := (rfl)
@[simp] theorem slB_o {d : List D} : slB (.o d) = some (.list d) := (rfl)
@[simp] theorem slB_b {d : D} : slB (.b d) = some d := (rfl)
@[simp] theorem slL_s {d : D} : slL (.s d) = some d := (rfl)
@[simp] theorem slL_b {d : D} : slL (.b d) = some d := (rfl)
@[simp] theorem e_var : mVar i ρ = mO (slS (ρ.get i)) ρ := by
  unfold mVar slS
  cases ρ.get i <;> rfl
@[simp] theorem e_varB : mVarB i ρ = mO (slB (ρ.get i)) ρ := by
  unfold mVarB slB
  cases ρ.get i <;> rfl
@[simp] theorem e_varS : mVarS i ρ = mO (slL (ρ.get i)) ρ := by
  unfold mVarS slL
  cases ρ.get i <;> rfl
@[simp] theorem e_op {op : D → D → Option D} {fa fb : MM D} : mOp op fa fb ρ = bnd (fa ρ) fun a r => bnd (fb (ρ.wr r)) fun b r2 => mO (op a b) ((ρ.wr r).wr r2) := by
  unfold mOp
  rw [e_bind]
  congr 1
  funext a r
  rw [e_bind]
@[simp] theorem e_opF {op : D → D → Option (List D)} {fa fb : MM D} : mOpF op fa fb ρ = bnd (fa ρ) fun a r => bnd (fb (ρ.wr r)) fun b r2 => mO (op a b) ((ρ.wr r).wr r2) := by
  unfold mOpF
  rw [e_bind]
  congr 1
  funext a r
  rw [e_bind]
@[simp] theorem e_un {op : D → Option D} {fa : MM D} : mUn op fa ρ = bnd (fa ρ) fun a r => mO (op a) (ρ.wr r) := by
  unfold mUn
  rw [e_bind]
@[simp] theorem e_cons {fa : MM D} {fl : MM (List D)} : mCons fa fl ρ = bnd (fa ρ) fun a r => bnd (fl (ρ.wr r)) fun l r2 => some (a :: l, r2) := by
  unfold mCons
  rw [e_bind]
  congr 1
  funext a r
  rw [e_bind]
  rfl
@[simp] theorem e_star {fa : MM D} {fl : MM (List D)} : mStar fa fl ρ = bnd (fa ρ) fun a r => bnd (mO (dItems a) (ρ.wr r)) fun l1 r1 => bnd (fl ((ρ.wr r).wr r1)) fun l r2 => some (l1 ++ l, r2) := by
  unfold mStar
  rw [e_bind]
  congr 1
  funext a r
  rw [e_bind]
  congr 1
  funext l1 r1
  rw [e_bind]
  rfl
@[simp] theorem e_tup {fl : MM (List D)} : mTup fl ρ = bnd (fl ρ) fun l r => mO (dTup l) (ρ.wr r) := by
  unfold mTup
  rw [e_bind]
@[simp] theorem e_lst {fl : MM (List D)} : mLst fl ρ = bnd (fl ρ) fun l r => mO (dLst l) (ρ.wr r) := by
  unfold mLst
  rw [e_bind]
def tb : D → Option Bool
  | .bool b => some b
  | _ => none
@[simp] theorem tb_bool {b : Bool} : tb (.bool b) = some b := (rfl)
@[simp] theorem e_test {f : MM D} : mTest f ρ = bnd (f ρ) fun d r => mO (tb d) (ρ.wr r) := by
  unfold mTest
  rw [e_bind]
  rfl
@[simp] theorem e_chain {o o' : D → D → Option D} {fa fb fc : MM D} : mChain o o' fa fb fc ρ = bnd (fa ρ) fun a r => bnd (fb (ρ.wr r)) fun b r2 => bnd (mO (o a b) ((ρ.wr r).wr r2)) fun k r3 => match tb k with
    | some true => bnd (fc (((ρ.wr r).wr r2).wr r3)) fun c r4 => mO (o' b c) ((((ρ.wr r).wr r2).wr r3).wr r4)
    | some false => some (PyData.bool false, r3)
    | none => none := by
  unfold mChain
  rw [e_bind]
  congr 1
  funext a r
  rw [e_bind]
  congr 1
  funext b r2
  rw [e_bind]
  congr 1
  funext k r3
  cases k with
  | bool b =>
    cases b
    · rfl
    · simp only [tb_bool]
      rw [e_bind]
  | _ => rfl
/-- a choice, from the left -/
def cho {β : Type} (b : Bool) (x y : Option β) : Option β := if b = true then x else y
theorem cho_congr {β : Type} {b c : Bool} {x y : Option β} (h : b = c) : cho b x y = cho c x y := by rw [h]
@[simp] theorem cho_t {β : Type} {x y : Option β} : cho true x y = x := (rfl)
@[simp] theorem cho_f {β : Type} {x y : Option β} : cho false x y = y := (rfl)
theorem ite_cho {β : Type} {b : Bool} {x y : Option β} : (if b = true then x else y) = cho b x y := rfl
@[simp] theorem e_if {ft : MM Bool} {fa fb : MM β} : mIf ft fa fb ρ = bnd (ft ρ) fun b r => cho b (fa (ρ.wr r)) (fb (ρ.wr r)) := by
  unfold mIf
  rw [e_bind]
  congr 1
  funext b r
  cases b <;> rfl
@[simp] theorem e_not {ft : MM Bool} : mNot ft ρ = bnd (ft ρ) fun b r => some (!b, r) := by
  unfold mNot
  rw [e_bind]
  rfl
@[simp] theorem e_and {f g : MM Bool} : mAnd f g ρ = bnd (f ρ) fun b r => cho b (g (ρ.wr r)) (some (false, r)) := by
  unfold mAnd
  rw [e_bind]
  congr 1
  funext b r
  cases b <;> rfl
@[simp] theorem e_or {f g : MM Bool} : mOr f g ρ = bnd (f ρ) fun b r => cho b (some (true, r)) (g (ρ.wr r)) := by
  unfold mOr
  rw [e_bind]
  congr 1
  funext b r
  cases b <;> rfl
@[simp] theorem e_andV {f g : MM D} : mAndV f g ρ = bnd (mTest f ρ) fun b r => cho b (g (ρ.wr r)) (some (PyData.bool false, r)) := by
  unfold mAndV
  rw [e_bind]
  congr 1
  funext b r
  cases b <;> rfl
@[simp] theorem e_orV {f g : MM D} : mOrV f g ρ = bnd (mTest f ρ) fun b r => cho b (some (PyData.bool true, r)) (g (ρ.wr r)) := by
  unfold mOrV
  rw [e_bind]
  congr 1
  funext b r
  cases b <;> rfl
@[simp] theorem e_notV {f : MM D} : mNotV f ρ = bnd (mTest f ρ) fun b r => some (PyData.bool (!b), r) := by
  unfold mNotV
  rw [e_bind]
  rfl
@[simp] theorem e_items {f : MM D} : mItems f ρ = bnd (f ρ) fun a r => mO (dItems a) (ρ.wr r) := by
  unfold mItems
  rw [e_bind]
@[simp] theorem e_rg1 {f : MM D} : mRange1 f ρ = bnd (f ρ) fun a r => mO (dRange (.int 0) a) (ρ.wr r) := by
  unfold mRange1
  rw [e_bind]
@[simp] theorem e_rg2 {f f2 : MM D} : mRange2 f f2 ρ = bnd (f ρ) fun a r => bnd (f2 (ρ.wr r)) fun b r2 => mO (dRange a b) ((ρ.wr r).wr r2) := by
  unfold mRange2
  rw [e_bind]
  congr 1
  funext a r
  rw [e_bind]
/-- the items of two -/
def zp2 (a b : D) : Option (List D) := match dItems a, dItems b with
  | some xs, some ys => some (List.zipWith (fun x y => PyData.tuple [x, y]) xs ys)
  | _, _ => none
def zp3 (a b c : D) : Option (List D) := match dItems a, dItems b, dItems c with
  | some xs, some ys, some zs => some (zip3 xs ys zs)
  | _, _, _ => none
@[simp] theorem e_zip2 {f f2 : MM D} : mZip2 f f2 ρ = bnd (f ρ) fun a r => bnd (f2 (ρ.wr r)) fun b r2 => mO (zp2 a b) ((ρ.wr r).wr r2) := by
  unfold mZip2
  rw [e_bind]
  congr 1
  funext a r
  rw [e_bind]
  congr 1
  funext b r2
  unfold zp2
  cases h1 : dItems a <;> cases h2 : dItems b <;> simp [mO, bnd] <;> rfl
@[simp] theorem e_zip3 {f f2 f3 : MM D} : mZip3 f f2 f3 ρ = bnd (f ρ) fun a r => bnd (f2 (ρ.wr r)) fun b r2 => bnd (f3 ((ρ.wr r).wr r2)) fun c r3 => mO (zp3 a b c) (((ρ.wr r).wr r2).wr r3) := by
  unfold mZip3
  rw [e_bind]
  congr 1
  funext a r
  rw [e_bind]
  congr 1
  funext b r2
  rw [e_bind]
  congr 1
  funext c r3
  unfold zp3
  cases h1 : dItems a <;> cases h2 : dItems b <;> cases h3 : dItems c <;> simp [mO, bnd] <;> rfl
@[simp] theorem e_enum {f : MM D} : mEnum f ρ = bnd (f ρ) fun a r => mO ((dItems a).map enumD) (ρ.wr r) := by
  unfold mEnum
  rw [e_bind]
  congr 1
  funext a r
  rw [e_bind]
  cases dItems a <;> rfl
def pt : D → Option (Option Int)
  | .int i => some (some i)
  | _ => none
@[simp] theorem pt_int {i : Int} : pt (.int i) = some (some i) := (rfl)
@[simp] theorem e_part {f : MM D} : mPart f ρ = bnd (f ρ) fun a r => mO (pt a) (ρ.wr r) := by
  unfold mPart
  rw [e_bind]
  rfl
@[simp] theorem e_sl {fa : MM D} {fl fh : MM (Option Int)} : mSl fa fl fh ρ = bnd (fa ρ) fun a r => bnd (fl (ρ.wr r)) fun l r2 => bnd (fh ((ρ.wr r).wr r2)) fun h r3 => mO (dSl a l h) (((ρ.wr r).wr r2).wr r3) := by
  unfold mSl
  rw [e_bind]
  congr 1
  funext a r
  rw [e_bind]
  congr 1
  funext b r2
  rw [e_bind]
@[simp] theorem e_lc {vs : List Nat} {fi : MM (List D)} {fg : D → Ev → Option Ev} {ft : MM Bool} {fe : MM D} : mLc vs fi fg ft fe ρ = bnd (fi ρ) fun ds r => bnd (mO (dLst ds) (ρ.wr r)) fun ds r2 => lcGo vs fg ft fe ds ((ρ.wr r).wr r2) := by
  unfold mLc
  rw [e_bind]
  congr 1
  funext a r
  rw [e_bind]
@[simp] theorem e_callG {F : List Sl → Row → Option (D × Row)} {fl : MM (List Sl)} : mCallG F fl ρ = bnd (fl ρ) fun l r => F l r := by
  unfold mCallG
  rw [e_bind]
  rfl
@[simp] theorem e_consS {s : MM D} {fl : MM (List Sl)} : mConsS s fl ρ = bnd (s ρ) fun a r => bnd (fl (ρ.wr r)) fun l r2 => some (Sl.s a :: l, r2) := by
  unfold mConsS
  rw [e_bind]
  congr 1
  funext a r
  rw [e_bind]
  rfl
end
/-! ### statements -/
def thn (x : Option Oc) (k : Ev → Option Oc) : Option Oc := match x with
  | some (.nx ρ) => k ρ
  | o => o
theorem thn_congr {x y : Option Oc} {k : Ev → Option Oc} (h : x = y) : thn x k = thn y k := by rw [h]
@[simp] theorem thn_nx {ρ : Ev} {k : Ev → Option Oc} : thn (some (.nx ρ)) k = k ρ := (rfl)
@[simp] theorem thn_ret {d : D} {w : Row} {k : Ev → Option Oc} : thn (some (.ret d w)) k = some (.ret d w) := (rfl)
section
variable {ρ : Ev} {i j l : Nat} {f : MM D}
@[simp] theorem e_seq {g g' : MS} : gSeq g g' ρ = thn (g ρ) g' := by
  unfold gSeq thn
  cases g ρ with
  | none => rfl
  | some o => cases o <;> rfl
@[simp] theorem e_skip : gSkip ρ = some (.nx ρ) := (rfl)
@[simp] theorem e_gset : gSet i f ρ = bnd (f ρ) fun d r => some (.nx ((ρ.wr r).set i (.s d))) := by
  unfold gSet bnd
  cases f ρ <;> rfl
@[simp] theorem e_gsetO {f : MM (List D)} : gSetO i f ρ = bnd (f ρ) fun d r => some (.nx ((ρ.wr r).set i (.o d))) := by
  unfold gSetO bnd
  cases f ρ <;> rfl
@[simp] theorem e_gif {ft : MM Bool} {g g' : MS} : gIf ft g g' ρ = bnd (ft ρ) fun b r => cho b (g (ρ.wr r)) (g' (ρ.wr r)) := by
  unfold gIf bnd
  cases ft ρ <;> rfl
@[simp] theorem e_gret : gRet f ρ = bnd (f ρ) fun d r => some (.ret d r) := by
  unfold gRet bnd
  cases f ρ <;> rfl
@[simp] theorem e_gretN : gRetN ρ = some (.ret .none ρ.row) := (rfl)
@[simp] theorem e_gdrop : gDrop f ρ = bnd (f ρ) fun _ r => some (.nx (ρ.wr r)) := by
  unfold gDrop bnd
  cases f ρ <;> rfl
@[simp] theorem e_gpar {fa fb : MM Sl} : gPar i j fa fb ρ = bnd (fa ρ) fun x r => bnd (fb (ρ.wr r)) fun y r2 => some (.nx (((ρ.wr r2).set i x).set j y)) := by
  unfold gPar bnd
  cases fa ρ with
  | none => rfl
  | some p =>
    obtain ⟨x, r⟩ := p
    simp only
    cases fb (ρ.wr r) <;> rfl
@[simp] theorem e_gpar3 {fa fb fc : MM D} : gPar3 i j l fa fb fc ρ = bnd (fa ρ) fun x r => bnd (fb (ρ.wr r)) fun y r2 => bnd (fc (ρ.wr r2)) fun z r3 => some (.nx ((((ρ.wr r3).set i (.s x)).set j (.s y)).set l (.s z))) := by
  unfold gPar3 bnd
  cases fa ρ with
  | none => rfl
  | some p =>
    obtain ⟨x, r⟩ := p
    simp only
    cases fb (ρ.wr r) with
    | none => rfl
    | some p2 =>
      obtain ⟨y, r2⟩ := p2
      simp only
      cases fc (ρ.wr r2) <;> rfl
@[simp] theorem e_gfor {fi : MM (List D)} {fg : D → Ev → Option Ev} {body : MS} : gFor fi fg body ρ = bnd (fi ρ) fun ds r => forGo fg body ds (ρ.wr r) := by
  unfold gFor bnd
  cases fi ρ <;> rfl
/-- the outcome of targets -/
def onE {β : Type} (x : Option Ev) (k : Ev → Option β) : Option β := match x with
  | some ρ => k ρ
  | none => none
theorem onE_congr {β : Type} {x y : Option Ev} {k : Ev → Option β} (h : x = y) : onE x k = onE y k := by rw [h]
@[simp] theorem onE_some {β : Type} {ρ : Ev} {k : Ev → Option β} : onE (some ρ) k = k ρ := (rfl)
@[simp] theorem e_gasg {fg : D → Ev → Option Ev} : gAsg f fg ρ = bnd (f ρ) fun d r => onE (fg d (ρ.wr r)) fun ρ' => some (.nx ρ') := by
  unfold gAsg bnd
  cases f ρ with
  | none => rfl
  | some p =>
    obtain ⟨x, r⟩ := p
    simp only
    cases fg x (ρ.wr r) <;> rfl
@[simp] theorem e_gtName {d : D} : gtName i d ρ = some (ρ.set i (.s d)) := (rfl)
@[simp] theorem e_gtNil : gtNil [] ρ = some ρ := (rfl)
@[simp] theorem e_gtCons {f : D → Ev → Option Ev} {fs : List D → Ev → Option Ev} {d : D} {ds : List D} : gtCons f fs (d :: ds) ρ = onE (f d ρ) fun ρ1 => fs ds ρ1 := by
  unfold onE
  show (match f d ρ with | some ρ1 => fs ds ρ1 | none => none) = _
  cases f d ρ <;> rfl
@[simp] theorem e_gtTup {n : Nat} {fs : List D → Ev → Option Ev} {ds : List D} (h : ds.length = n) : gtTup n fs (.tuple ds) ρ = fs ds ρ := if_pos h
/-- a store into one's own list -/
def stO (x : Sl) (k : Int) (d : D) : Option Sl := match x with
  | .o ds => (match ixN ds.length k with
    | some j => some (.o (ds.set j d))
    | none => none)
  | _ => none
@[simp] theorem e_gtSub {fi : MM D} {d : D} : gtSub i fi d ρ = bnd (fi ρ) fun kd r => match pt kd with
    | some (some k) => (match stO ((ρ.wr r).get i) k d with
      | some x => some ((ρ.wr r).set i x)
      | none => none)
    | _ => none := by
  unfold gtSub bnd
  cases fi ρ with
  | none => rfl
  | some p =>
    obtain ⟨x, r⟩ := p
    cases x with
    | int k =>
      simp only [pt_int]
      unfold stO
      cases (ρ.wr r).get i with
      | o ds =>
        simp only
        cases ixN ds.length k <;> rfl
      | _ => rfl
    | _ => rfl
def apO (x : Sl) (d : D) : Option Sl := match x with
  | .o ds => if ds.length < 1000000 then some (.o (ds ++ [d])) else none
  | _ => none
@[simp] theorem e_gapp : gAppend i f ρ = bnd (f ρ) fun d r => match apO ((ρ.wr r).get i) d with
    | some x => some (.nx ((ρ.wr r).set i x))
    | none => none := by
  unfold gAppend bnd
  cases f ρ with
  | none => rfl
  | some p =>
    obtain ⟨x, r⟩ := p
    simp only
    unfold apO
    cases (ρ.wr r).get i with
    | o ds =>
      simp only
      split <;> rfl
    | _ => rfl
end
/-! ### operators -/
section
variable {i j : Int} {a b : Bool} {xs ys : List D}
@[simp] theorem d_add : dAddI (.int i) (.int j) = some (.int (i + j)) := (rfl)
@[simp] theorem d_sub : dSub (.int i) (.int j) = some (.int (i - j)) := (rfl)
@[simp] theorem d_mul (h : mulOk i j = true) : dMul (.int i) (.int j) = some (.int (i * j)) := if_pos h
@[simp] theorem d_div (h : j ≠ 0) : dDiv (.int i) (.int j) = some (.int (i.fdiv j)) := if_neg h
@[simp] theorem d_mod (h : j ≠ 0) : dMod (.int i) (.int j) = some (.int (i.fmod j)) := if_neg h
@[simp] theorem d_lt : dLt (.int i) (.int j) = some (.bool (decide (i < j))) := (rfl)
@[simp] theorem d_le : dLe (.int i) (.int j) = some (.bool (decide (i ≤ j))) := (rfl)
@[simp] theorem d_gt : dGt (.int i) (.int j) = some (.bool (decide (j < i))) := (rfl)
@[simp] theorem d_ge : dGe (.int i) (.int j) = some (.bool (decide (j ≤ i))) := (rfl)
theorem eqv_int : PyData.eqv (.int i) (.int j) = decide (i = j) := by
  unfold PyData.eqv
  by_cases h : i = j <;> simp [h]
theorem shaped_int : SeqAt.shaped (.int i) = true := rfl
theorem shaped_bool : SeqAt.shaped (.bool a) = true := rfl
@[simp] theorem d_eqI : dEq (.int i) (.int j) = some (.bool (decide (i = j))) := by
  unfold dEq
  rw [shaped_int, shaped_int, eqv_int]
  rfl
@[simp] theorem d_neI : dNe (.int i) (.int j) = some (.bool (!decide (i = j))) := by
  unfold dNe
  rw [shaped_int, shaped_int, eqv_int]
  rfl
@[simp] theorem d_eqB : dEq (.bool a) (.bool b) = some (.bool (a == b)) := by
  cases a <;> cases b <;> rfl
@[simp] theorem d_neB : dNe (.bool a) (.bool b) = some (.bool (!(a == b))) := by
  cases a <;> cases b <;> rfl
@[simp] theorem d_neg : dNeg (.int i) = some (.int (-i)) := (rfl)
@[simp] theorem d_abs : dAbs (.int i) = some (.int i.natAbs) := by
  show some (PyData.int (if i < 0 then -i else i)) = _
  congr 2
  split <;> omega
@[simp] theorem d_int : dInt (.int i) = some (.int i) := (rfl)
@[simp] theorem d_max2 : dMax2 (.int i) (.int j) = some (.int (max i j)) := by
  show some (PyData.int (if j > i then j else i)) = _
  congr 2
  rw [Int.max_def]
  split <;> split <;> omega
@[simp] theorem d_min2 : dMin2 (.int i) (.int j) = some (.int (min i j)) := by
  show some (PyData.int (if j < i then j else i)) = _
  congr 2
  rw [Int.min_def]
  split <;> split <;> omega
@[simp] theorem d_itL : dItems (.list xs) = some xs := (rfl)
@[simp] theorem d_itT : dItems (.tuple xs) = some xs := (rfl)
@[simp] theorem d_lenL : dLen (.list xs) = some (.int (xs.length : Nat)) := (rfl)
@[simp] theorem d_lenT : dLen (.tuple xs) = some (.int (xs.length : Nat)) := (rfl)
@[simp] theorem d_tup (h : xs.length ≤ 1000000) : dTup xs = some (.tuple xs) := if_pos h
@[simp] theorem d_lst (h : xs.length ≤ 1000000) : dLst xs = some xs := if_pos h
@[simp] theorem d_ixT : dIx (.tuple xs) (.int i) = L2.atI xs i := (rfl)
@[simp] theorem d_ixL : dIx (.list xs) (.int i) = L2.atI xs i := (rfl)
@[simp] theorem d_tofL : dTupOf (.list xs) = some (.tuple xs) := (rfl)
@[simp] theorem d_tofT : dTupOf (.tuple xs) = some (.tuple xs) := (rfl)
theorem ixN_nat {n k : Nat} (h : k < n) : ixN n (k : Int) = some k := by
  unfold ixN
  rw [if_pos (Int.natCast_nonneg k), if_pos (by omega)]
  rfl
theorem atI_nat {α : Type} {xs : List α} {k : Nat} (h : k < xs.length) : L2.atI xs (k : Int) = xs[k]? := by
  unfold L2.atI
  rw [ixN_nat h]
  rfl
@[simp] theorem atI_0 {α : Type} {x : α} {xs : List α} : L2.atI (x :: xs) 0 = some x := by
  rw [show (0 : Int) = ((0 : Nat) : Int) from rfl, atI_nat (by simp)]
  rfl
@[simp] theorem atI_1 {α : Type} {x y : α} {xs : List α} : L2.atI (x :: y :: xs) 1 = some y := by
  rw [show (1 : Int) = ((1 : Nat) : Int) from rfl, atI_nat (by simp)]
  rfl
@[simp] theorem atI_2 {α : Type} {x y z : α} {xs : List α} : L2.atI (x :: y :: z :: xs) 2 = some z := by
  rw [show (2 : Int) = ((2 : Nat) : Int) from rfl, atI_nat (by simp)]
  rfl
@[simp] theorem atI_3 {α : Type} {x y z u : α} {xs : List α} : L2.atI (x :: y :: z :: u :: xs) 3 = some u := by
  rw [show (3 : Int) = ((3 : Nat) : Int) from rfl, atI_nat (by simp)]
  rfl
/-- a vector of n things -/
def vecF {α : Type} (n : Nat) (f : Nat → α) : List α := (List.range n).map f
@[simp] theorem vecF_len {α : Type} {n : Nat} {f : Nat → α} : (vecF n f).length = n := by simp [vecF]
theorem vecF_get {α : Type} {n k : Nat} {f : Nat → α} (h : k < n) : (vecF n f)[k]? = some (f k) := by
  unfold vecF
  rw [List.getElem?_map, List.getElem?_range h]
  rfl
@[simp] theorem atI_vec {α : Type} {n k : Nat} {f : Nat → α} (h : k < n) : L2.atI (vecF n f) (k : Int) = some (f k) := by
  rw [atI_nat (by simpa using h), vecF_get h]
theorem vecF_congr {α : Type} {n : Nat} {f g : Nat → α} (h : ∀ i, i < n → f i = g i) : vecF n f = vecF n g :=
  List.map_congr_left fun i hi => h i (List.mem_range.mp hi)
theorem vecF_ext {α : Type} {n : Nat} {f : Nat → α} {l : List α} (h : l.length = n) (hg : ∀ i, i < n → l[i]? = some (f i)) : l = vecF n f := by
  apply List.ext_getElem?
  intro i
  by_cases hi : i < n
  · rw [hg i hi, vecF_get hi]
  · rw [List.getElem?_eq_none (by omega), List.getElem?_eq_none (by simp; omega)]
theorem vecF_set {α : Type} {n k : Nat} {f : Nat → α} {x : α} : (vecF n f).set k x = vecF n (fun i => if i = k then x else f i) := by
  refine vecF_ext (by simp) fun i hi => ?_
  rw [List.getElem?_set]
  by_cases h : k = i
  · subst h
    simp [hi]
  · rw [if_neg h, vecF_get hi, if_neg (fun e => h e.symm)]
theorem vecF_map {α β : Type} {n : Nat} {f : Nat → α} {g : α → β} : (vecF n f).map g = vecF n fun i => g (f i) := by
  unfold vecF
  rw [List.map_map]
  rfl
theorem vecF_zip {α β γ : Type} {n : Nat} {f : Nat → α} {g : Nat → β} {h : α → β → γ} : List.zipWith h (vecF n f) (vecF n g) = vecF n fun i => h (f i) (g i) := by
  refine vecF_ext (by simp) fun i hi => ?_
  rw [List.getElem?_zipWith, vecF_get hi, vecF_get hi]
theorem zip3_get : ∀ {xs ys zs : List D} {i : Nat} {x y z : D}, xs[i]? = some x → ys[i]? = some y → zs[i]? = some z → (zip3 xs ys zs)[i]? = some (.tuple [x, y, z])
  | [], _, _, _, _, _, _, h, _, _ => by simp at h
  | _ :: _, [], _, _, _, _, _, _, h, _ => by simp at h
  | _ :: _, _ :: _, [], _, _, _, _, _, _, h => by simp at h
  | a :: xs, b :: ys, c :: zs, 0, x, y, z, h1, h2, h3 => by
    simp at h1 h2 h3
    subst h1 h2 h3
    rfl
  | a :: xs, b :: ys, c :: zs, i + 1, x, y, z, h1, h2, h3 => by
    simp at h1 h2 h3
    exact zip3_get (xs := xs) (ys := ys) (zs := zs) h1 h2 h3
theorem zip3_len : ∀ {xs ys zs : List D} {n : Nat}, xs.length = n → ys.length = n → zs.length = n → (zip3 xs ys zs).length = n
  | [], _, _, _, h, _, _ => by subst h; rfl
  | _ :: _, [], _, _, h, h2, _ => by subst h2; simp at h
  | _ :: _, _ :: _, [], _, h, _, h3 => by subst h3; simp at h
  | a :: xs, b :: ys, c :: zs, n, h1, h2, h3 => by
    cases n with
    | zero => simp at h1
    | succ n => exact congrArg (· + 1) (zip3_len (xs := xs) (ys := ys) (zs := zs) (by simpa using h1) (by simpa using h2) (by simpa using h3))
theorem vecF_zip3 {n : Nat} {f g h : Nat → D} : zip3 (vecF n f) (vecF n g) (vecF n h) = vecF n fun i => .tuple [f i, g i, h i] :=
  vecF_ext (zip3_len (by simp) (by simp) (by simp)) fun i hi => zip3_get (vecF_get hi) (vecF_get hi) (vecF_get hi)
theorem vecF_enum {n : Nat} {f : Nat → D} : enumD (vecF n f) = vecF n fun i => .tuple [.int (i : Nat), f i] := by
  refine vecF_ext (by simp [enumD]) fun i hi => ?_
  unfold enumD
  rw [List.getElem?_map, List.getElem?_zipIdx, vecF_get hi]
  simp
theorem vecF_append {α : Type} {n m : Nat} {f g : Nat → α} : vecF n f ++ vecF m g = vecF (n + m) fun i => if i < n then f i else g (i - n) := by
  refine vecF_ext (by simp) fun i hi => ?_
  rw [List.getElem?_append]
  simp only [vecF_len]
  by_cases h : i < n
  · rw [if_pos h, if_pos h, vecF_get h]
  · rw [if_neg h, if_neg h, vecF_get (by omega)]
theorem vecF_succ {α : Type} {n : Nat} {f : Nat → α} : vecF (n + 1) f = vecF n f ++ [f n] := by
  unfold vecF
  rw [List.range_succ, List.map_append]
  rfl
@[simp] theorem vecF_zero {α : Type} {f : Nat → α} : vecF 0 f = [] := (rfl)
theorem d_range {n : Nat} (h : n ≤ 1000000) : dRange (.int 0) (.int (n : Int)) = some (vecF n fun i => .int (i : Nat)) := by
  unfold dRange vecF
  simp only
  rw [if_pos ⟨by decide, by decide, by omega, by omega⟩]
  simp
theorem d_range2 {a b : Nat} (h : b ≤ 1000000) (ha : a ≤ 1000000) : dRange (.int (a : Int)) (.int (b : Int)) = some (vecF (b - a) fun i => .int ((a + i : Nat) : Int)) := by
  unfold dRange vecF
  simp only
  rw [if_pos ⟨by omega, by omega, by omega, by omega⟩]
  simp only [Option.some.injEq]
  rw [show ((b : Int) - (a : Int)).toNat = b - a by omega]
  refine List.map_congr_left fun i _ => ?_
  simp
end
/-! ### loops, comprehensions -/
section
variable {vs : List Nat} {fg : D → Ev → Option Ev} {ft : MM Bool} {fe : MM D} {body : MS}
/-- a comprehension that only reads -/
theorem lcGo_map (φ : D → D) {ds : List D} {ρ : Ev} (h : ∀ d ∈ ds, ∃ ρ1, fg d (ρ.wipe vs) = some ρ1 ∧ ft ρ1 = some (true, ρ.row) ∧ fe (ρ1.wr ρ.row) = some (φ d, ρ.row)) :
    lcGo vs fg ft fe ds ρ = some (ds.map φ, ρ.row) := by
  induction ds with
  | nil => rfl
  | cons d ds ih =>
    obtain ⟨ρ1, h1, h2, h3⟩ := h d (List.mem_cons_self ..)
    unfold lcGo
    rw [h1]
    simp only
    rw [h2]
    simp only [if_true]
    rw [h3]
    simp only
    have e : ρ.wr ρ.row = ρ := rfl
    rw [e, ih fun d hd => h d (List.mem_cons_of_mem _ hd)]
    rfl
theorem lcGo_vec {n : Nat} {c φ : Nat → D} {ρ : Ev} (h : ∀ i, i < n → ∃ ρ1, fg (c i) (ρ.wipe vs) = some ρ1 ∧ ft ρ1 = some (true, ρ.row) ∧ fe (ρ1.wr ρ.row) = some (φ i, ρ.row)) :
    lcGo vs fg ft fe (vecF n c) ρ = some (vecF n φ, ρ.row) := by
  unfold vecF
  have key : ∀ l : List Nat, (∀ i ∈ l, i < n) → lcGo vs fg ft fe (l.map c) ρ = some (l.map φ, ρ.row) := by
    intro l
    induction l with
    | nil => intro _; rfl
    | cons i l ih =>
      intro hl
      obtain ⟨ρ1, h1, h2, h3⟩ := h i (hl i (List.mem_cons_self ..))
      rw [List.map_cons, List.map_cons]
      unfold lcGo
      rw [h1]
      simp only
      rw [h2]
      simp only [if_true]
      rw [h3]
      simp only
      have e : ρ.wr ρ.row = ρ := rfl
      rw [e, ih fun d hd => hl d (List.mem_cons_of_mem _ hd)]
  exact key _ fun i hi => List.mem_range.mp hi
/-- .. with a test -/
theorem lcGo_filter {n : Nat} {c φ : Nat → D} {t : Nat → Bool} {ρ : Ev} (h : ∀ i, i < n → ∃ ρ1, fg (c i) (ρ.wipe vs) = some ρ1 ∧ ft ρ1 = some (t i, ρ.row) ∧ (t i = true → fe (ρ1.wr ρ.row) = some (φ i, ρ.row))) :
    lcGo vs fg ft fe (vecF n c) ρ = some (((List.range n).filter t).map φ, ρ.row) := by
  unfold vecF
  have key : ∀ l : List Nat, (∀ i ∈ l, i < n) → lcGo vs fg ft fe (l.map c) ρ = some ((l.filter t).map φ, ρ.row) := by
    intro l
    induction l with
    | nil => intro _; rfl
    | cons i l ih =>
      intro hl
      obtain ⟨ρ1, h1, h2, h3⟩ := h i (hl i (List.mem_cons_self ..))
      have e : ρ.wr ρ.row = ρ := rfl
      rw [List.map_cons]
      unfold lcGo
      rw [h1]
      simp only
      rw [h2]
      simp only
      cases ht : t i with
      | true =>
        simp only [if_true]
        rw [h3 ht]
        simp only
        rw [e, ih fun d hd => hl d (List.mem_cons_of_mem _ hd), List.filter_cons, ht]
        rfl
      | false =>
        simp only [Bool.false_eq_true, if_false]
        rw [e, ih fun d hd => hl d (List.mem_cons_of_mem _ hd), List.filter_cons, ht]
        rfl
  exact key _ fun i hi => List.mem_range.mp hi
/-- a comprehension that draws: P holds of each thing made -/
theorem lcGo_draw {β : Type} [Inhabited β] (I : DL.Row → Prop) (P : Nat → β → Prop) (mk : β → D) {n : Nat} {c : Nat → D} {sl : List Sl} {w : DL.Row} (hw : I w)
    (h : ∀ i w, i < n → I w → ∃ ρ1 b w', fg (c i) (Ev.wipe ⟨w, sl⟩ vs) = some ρ1 ∧ ft ρ1 = some (true, w) ∧ fe (ρ1.wr w) = some (mk b, w') ∧ I w' ∧ P i b) :
    ∃ (f : Nat → β) (w' : DL.Row), lcGo vs fg ft fe (vecF n c) ⟨w, sl⟩ = some (vecF n fun i => mk (f i), w') ∧ I w' ∧ ∀ i, i < n → P i (f i) := by
  have key : ∀ (m k : Nat) (w : DL.Row), k + m = n → I w → ∃ (f : Nat → β) (w' : DL.Row), lcGo vs fg ft fe ((List.range m).map fun i => c (k + i)) ⟨w, sl⟩ = some ((List.range m).map fun i => mk (f i), w') ∧ I w' ∧ ∀ i, i < m → P (k + i) (f i) := by
    intro m
    induction m with
    | zero =>
      intro k w _ hw
      exact ⟨fun _ => default, w, rfl, hw, fun i hi => absurd hi (Nat.not_lt_zero _)⟩
    | succ m ih =>
      intro k w hk hw
      obtain ⟨ρ1, b, w1, h1, h2, h3, h4, h5⟩ := h k w (by omega) hw
      obtain ⟨f, w2, e, h6, h7⟩ := ih (k + 1) w1 (by omega) h4
      refine ⟨fun i => match i with | 0 => b | i + 1 => f i, w2, ?_, h6, ?_⟩
      · rw [List.range_succ_eq_map, List.map_cons, List.map_cons, List.map_map, List.map_map]
        unfold lcGo
        rw [show c (k + 0) = c k from rfl, h1]
        simp only
        rw [h2]
        simp only [if_true]
        rw [h3]
        simp only
        have e2 : ((fun i => c (k + i)) ∘ Nat.succ) = fun i => c (k + 1 + i) := by
          funext i
          show c (k + (i + 1)) = c (k + 1 + i)
          congr 1
          omega
        have e3 : (Ev.mk w sl).wr w1 = ⟨w1, sl⟩ := rfl
        rw [e2, e3, e]
        rfl
      · intro i hi
        cases i with
        | zero => exact h5
        | succ i =>
          have z := h7 i (by omega)
          rw [show k + (i + 1) = k + 1 + i by omega]
          exact z
  obtain ⟨f, w', e, h1, h2⟩ := key n 0 w (by omega) hw
  refine ⟨f, w', ?_, h1, fun i hi => by simpa using h2 i hi⟩
  unfold vecF
  simpa using e
/-- a loop -/
theorem forGo_inv (J : Nat → Ev → Prop) (Q : Oc → Prop) {n : Nat} {c : Nat → D} {ρ : Ev} (h0 : J 0 ρ)
    (hs : ∀ i ρ, i < n → J i ρ → ∃ ρ1, fg (c i) ρ = some ρ1 ∧ ∃ oc, body ρ1 = some oc ∧ match oc with
      | .nx ρ2 => J (i + 1) ρ2
      | .ct ρ2 => J (i + 1) ρ2
      | .bk ρ2 => Q (.nx ρ2)
      | .ret d w => Q (.ret d w))
    (he : ∀ ρ, J n ρ → Q (.nx ρ)) : ∃ oc, forGo fg body (vecF n c) ρ = some oc ∧ Q oc := by
  have key : ∀ (m k : Nat) (ρ : Ev), k + m = n → J k ρ → ∃ oc, forGo fg body ((List.range m).map fun i => c (k + i)) ρ = some oc ∧ Q oc := by
    intro m
    induction m with
    | zero =>
      intro k ρ hk hJ
      have e : k = n := by omega
      subst e
      exact ⟨_, rfl, he ρ hJ⟩
    | succ m ih =>
      intro k ρ hk hJ
      obtain ⟨ρ1, h1, oc, h2, h3⟩ := hs k ρ (by omega) hJ
      have e2 : ((fun i => c (k + i)) ∘ Nat.succ) = fun i => c (k + 1 + i) := by
        funext i
        show c (k + (i + 1)) = c (k + 1 + i)
        congr 1
        omega
      rw [List.range_succ_eq_map, List.map_cons, List.map_map, e2]
      unfold forGo
      rw [show c (k + 0) = c k from rfl, h1]
      simp only
      rw [h2]
      cases oc with
      | nx ρ2 => exact ih (k + 1) ρ2 (by omega) h3
      | ct ρ2 => exact ih (k + 1) ρ2 (by omega) h3
      | bk ρ2 => exact ⟨_, rfl, h3⟩
      | ret d w => exact ⟨_, rfl, h3⟩
  unfold vecF
  have z := key n 0 ρ (by omega) h0
  simpa using z
/-- a loop that runs to its end, each state given -/
theorem forGo_st {n : Nat} {c : Nat → D} (S : Nat → Ev) {ρ : Ev} (h0 : ρ = S 0) (hs : ∀ i, i < n → ∃ ρ1, fg (c i) (S i) = some ρ1 ∧ body ρ1 = some (.nx (S (i + 1)))) :
    forGo fg body (vecF n c) ρ = some (.nx (S n)) := by
  obtain ⟨oc, h1, h2⟩ := forGo_inv (fg := fg) (body := body) (n := n) (c := c) (ρ := ρ) (fun i ρ => ρ = S i) (fun oc => oc = .nx (S n)) h0 (fun i ρ hi hJ => by
    obtain ⟨ρ1, h1, h2⟩ := hs i hi
    subst hJ
    exact ⟨ρ1, h1, _, h2, rfl⟩) fun ρ hJ => by rw [hJ]
  rw [h1, h2]
end
theorem forGo_congr {fg : D → Ev → Option Ev} {body : MS} {ds ds' : List D} {ρ ρ' : Ev} (h1 : ds = ds') (h2 : ρ = ρ') : forGo fg body ds ρ = forGo fg body ds' ρ' := by rw [h1, h2]
theorem lcGo_congr {vs : List Nat} {fg : D → Ev → Option Ev} {ft : MM Bool} {fe : MM D} {ds ds' : List D} {ρ ρ' : Ev} (h1 : ds = ds') (h2 : ρ = ρ') : lcGo vs fg ft fe ds ρ = lcGo vs fg ft fe ds' ρ' := by rw [h1, h2]
theorem whGo_congr {ft : MM Bool} {body : MS} {n n' : Nat} {ρ ρ' : Ev} (h1 : n = n') (h2 : ρ = ρ') : whGo ft body n ρ = whGo ft body n' ρ' := by rw [h1, h2]
/-- an outcome of which Q holds -/
def wp (x : Option Oc) (Q : Oc → Prop) : Prop := ∃ oc, x = some oc ∧ Q oc
theorem wp_congr {x y : Option Oc} {Q : Oc → Prop} (h : x = y) : wp x Q = wp y Q := by rw [h]
theorem wp_some {oc : Oc} {Q : Oc → Prop} (h : Q oc) : wp (some oc) Q := ⟨_, rfl, h⟩
/-- what holds behind a statement: Qn of the state, else Q of the outcome -/
def onNx (J : Ev → Prop) (Q : Oc → Prop) : Oc → Prop
  | .nx ρ => J ρ
  | o => Q o
theorem wp_thn {x : Option Oc} {k : Ev → Option Oc} {Q : Oc → Prop} (J : Ev → Prop) (h : wp x (onNx J Q)) (hk : ∀ ρ, J ρ → wp (k ρ) Q) : wp (thn x k) Q := by
  obtain ⟨oc, rfl, h⟩ := h
  cases oc with
  | nx ρ => exact hk ρ h
  | ret d w => exact ⟨_, rfl, h⟩
  | bk ρ => exact ⟨_, rfl, h⟩
  | ct ρ => exact ⟨_, rfl, h⟩
/-- what holds behind a loop's body -/
def onBody (J : Ev → Prop) (Q : Oc → Prop) : Oc → Prop
  | .nx ρ => J ρ
  | .ct ρ => J ρ
  | .bk ρ => Q (.nx ρ)
  | .ret d w => Q (.ret d w)
theorem wp_for {fg : D → Ev → Option Ev} {body : MS} {n : Nat} {c : Nat → D} {ρ : Ev} {Q : Oc → Prop} (J : Nat → Ev → Prop) (h0 : J 0 ρ) (hs : ∀ i ρ, i < n → J i ρ → wp (onE (fg (c i) ρ) body) (onBody (J (i + 1)) Q)) (he : ∀ ρ, J n ρ → Q (.nx ρ)) :
    wp (forGo fg body (vecF n c) ρ) Q := by
  refine forGo_inv J Q h0 (fun i ρ hi hJ => ?_) he
  obtain ⟨oc, h1, h2⟩ := hs i ρ hi hJ
  cases e : fg (c i) ρ with
  | none => rw [e] at h1; cases h1
  | some ρ1 =>
    rw [e] at h1
    refine ⟨ρ1, rfl, oc, h1, ?_⟩
    cases oc <;> exact h2
theorem thn_for {fg : D → Ev → Option Ev} {body : MS} {n : Nat} {c : Nat → D} {ρ : Ev} {k : Ev → Option Oc} {R : Option Oc} (J : Nat → Ev → Prop) (h0 : J 0 ρ) (hs : ∀ i ρ, i < n → J i ρ → ∃ ρ2, onE (fg (c i) ρ) body = some (.nx ρ2) ∧ J (i + 1) ρ2) (he : ∀ ρ, J n ρ → k ρ = R) :
    thn (forGo fg body (vecF n c) ρ) k = R := by
  obtain ⟨oc, h1, ρ', h2, h3⟩ := wp_for (fg := fg) (body := body) (n := n) (c := c) (ρ := ρ) (Q := fun oc => ∃ ρ', oc = .nx ρ' ∧ J n ρ') J h0 (fun i ρ hi hJ => by
    obtain ⟨ρ2, e, h⟩ := hs i ρ hi hJ
    exact ⟨_, e, h⟩) fun ρ h => ⟨ρ, rfl, h⟩
  rw [h1, h2]
  exact he ρ' h3
theorem run_wp {g : MS} {n N : Nat} {ds : List D} {P : D → Prop} (hl : ds.length = n) (h : wp (g ⟨([], 0, 0, 0), ds.map Sl.s ++ List.replicate (N - n) .no⟩) (fun oc => match oc with
    | .ret d _ => P d
    | .nx _ => P .none
    | _ => False)) : ∃ d, runP g n N ds = some d ∧ P d := by
  obtain ⟨oc, e, h⟩ := h
  unfold runP runDef
  rw [if_pos (by simpa using hl), e]
  cases oc with
  | ret d w => exact ⟨_, rfl, h⟩
  | nx ρ => exact ⟨_, rfl, h⟩
  | bk ρ => exact h.elim
  | ct ρ => exact h.elim
end PX

namespace PX
open PySem L2 DL PG
/-! ### fractions -/
def frD (q : Rat) : D := .tuple [.int q.num, .int (q.den : Nat)]
theorem run_of {g : MS} {n N : Nat} {ds : List D} {d : D} {w : DL.Row} (hl : ds.length = n) (h : g ⟨([], 0, 0, 0), ds.map Sl.s ++ List.replicate (N - n) .no⟩ = some (.ret d w)) : runP g n N ds = some d := by
  unfold runP runDef
  rw [if_pos (by simpa using hl), h]
  rfl
theorem run_nx {g : MS} {n N : Nat} {ds : List D} {ρ : Ev} (hl : ds.length = n) (h : g ⟨([], 0, 0, 0), ds.map Sl.s ++ List.replicate (N - n) .no⟩ = some (.nx ρ)) : runP g n N ds = some .none := by
  unfold runP runDef
  rw [if_pos (by simpa using hl), h]
  rfl
theorem fmod_nat (x y : Nat) : (x : Int).fmod (y : Int) = ((x % y : Nat) : Int) := by
  rw [Int.fmod_eq_emod_of_nonneg _ (Int.natCast_nonneg y)]
  rfl
theorem e_wh {ft : MM Bool} {body : MS} {n : Nat} {ρ : Ev} : whGo ft body (n + 1) ρ = bnd (ft ρ) fun b r => cho b (match body (ρ.wr r) with
        | some (.nx ρ2) => whGo ft body n ρ2
        | some (.ct ρ2) => whGo ft body n ρ2
        | some (.bk ρ2) => some (.nx ρ2)
        | some (.ret d w) => some (.ret d w)
        | none => none) (some (.nx (ρ.wr r))) := by
  unfold bnd cho
  rw [whGo]
  dsimp only
  cases ft ρ with
  | none => rfl
  | some p => rfl
theorem common_loop {r : DL.Row} : ∀ (n x y : Nat), y < n → whGo (mTest (mOp dNe (mVarB 1) (mRet (.int 0)))) (gPar 0 1 (mBind (mVar 1) fun d => mRet (.s d)) (mBind (mOp dMod (mVarB 0) (mVarB 1)) fun d => mRet (.s d))) n ⟨r, [.s (.int (x : Nat)), .s (.int (y : Nat))]⟩ = some (.nx ⟨r, [.s (.int (Nat.gcd x y : Nat)), .s (.int 0)]⟩) := by
  intro n
  induction n with
  | zero => intro x y h; omega
  | succ n ih =>
    intro x y h
    rw [e_wh]
    by_cases hy : y = 0
    · subst hy
      simp
    · have hy' : (y : Int) ≠ 0 := by omega
      simp [hy', hy]
      rw [fmod_nat]
      have := ih y (x % y) (by have := Nat.mod_lt x (Nat.pos_of_ne_zero hy); omega)
      rw [this, Nat.gcd_comm x y, Nat.gcd_rec y x]
      rw [Nat.gcd_comm]
@[simp] theorem e_gwh {fuel : Ev → Nat} {ft : MM Bool} {g : MS} {ρ : Ev} : gWhile fuel ft g ρ = whGo ft g (fuel ρ) ρ := (rfl)
theorem F_common_eq (a b : Int) : F_common [.int a, .int b] = some (.int (Int.gcd a b : Nat)) := by
  refine run_of (w := ([], 0, 0, 0)) rfl ?_
  unfold g_common
  simp [fuel_common, common_loop]
  rfl
@[simp] theorem app_nil1 {a : D} : ([a] ++ [] : List D) = [a] := (rfl)
theorem fdiv_exact {a g : Int} (hg : g ≠ 0) (h : g ∣ a) : a.fdiv g = a / g := by
  rw [Int.fdiv_eq_ediv_of_dvd h]
/-- a reduced fraction's two parts -/
theorem fr_parts {p q : Int} (hq : q ≠ 0) : frD (Rat.divInt p q) = .tuple [.int (q.sign * (p / (Int.gcd p q : Int))), .int (q.sign * (q / (Int.gcd p q : Int)))] := by
  unfold frD
  rw [Rat.num_divInt, Rat.den_divInt, if_neg hq]
  have hg : (Int.gcd p q : Int) ≠ 0 := by
    have := Int.gcd_pos_of_ne_zero_right p hq
    omega
  have d1 : (Int.gcd p q : Int) ∣ p := Int.gcd_dvd_left ..
  have d2 : (Int.gcd p q : Int) ∣ q := Int.gcd_dvd_right ..
  rw [Int.gcd_comm q p]
  congr 3
  · rw [Int.mul_ediv_assoc _ d1]
  · have e : q.sign * (q / (Int.gcd p q : Int)) = ((q.natAbs / Int.gcd p q : Nat) : Int) := by
      rw [← Int.mul_ediv_assoc _ d2, Int.sign_mul_self]
      rfl
    rw [e]
/-- sizes in bits -/
def Sz (n : Nat) (q : Rat) : Prop := q.num.natAbs < 2 ^ n ∧ q.den < 2 ^ n
theorem log2_lt' {a n : Nat} (h : a < 2 ^ n) : a.log2 ≤ n := by
  by_cases h0 : a = 0
  · subst h0; simp
  · have := (Nat.log2_lt h0).mpr h
    omega
theorem mulOk_of {i j : Int} {m n : Nat} (hi : i.natAbs < 2 ^ m) (hj : j.natAbs < 2 ^ n) (h : m + n < 134000000) : mulOk i j = true := by
  unfold mulOk
  have h1 := log2_lt' hi
  have h2 := log2_lt' hj
  exact decide_eq_true (by omega)
theorem Sz.mono {m n : Nat} {q : Rat} (h : Sz m q) (hn : m ≤ n) : Sz n q := by
  have := Nat.pow_le_pow_right (n := 2) (by decide) hn
  exact ⟨by have := h.1; omega, by have := h.2; omega⟩
theorem Sz.divInt {n : Nat} {p q : Int} (hp : p.natAbs < 2 ^ n) (hq : q.natAbs < 2 ^ n) (h0 : q ≠ 0) : Sz n (Rat.divInt p q) := by
  have hg : 0 < Int.gcd p q := Int.gcd_pos_of_ne_zero_right p h0
  have d1 : (Int.gcd p q : Int) ∣ p := Int.gcd_dvd_left ..
  refine ⟨?_, ?_⟩
  · rw [Rat.num_divInt, Int.gcd_comm q p, Int.mul_ediv_assoc _ d1, Int.natAbs_mul]
    have h1 : q.sign.natAbs ≤ 1 := by
      rcases Int.lt_trichotomy q 0 with z | z | z
      · rw [Int.sign_eq_neg_one_of_neg z]; decide
      · subst z; decide
      · rw [Int.sign_eq_one_of_pos z]; decide
    have h2 : (p / (Int.gcd p q : Int)).natAbs ≤ p.natAbs := by
      rw [Int.natAbs_ediv_of_dvd d1]
      exact Nat.div_le_self _ _
    have := Nat.mul_le_mul h1 h2
    omega
  · rw [Rat.den_divInt, if_neg h0, Int.gcd_comm q p]
    have := Nat.div_le_self q.natAbs (Int.gcd p q)
    omega
theorem F_fraction_eq {p q : Int} (hq : q ≠ 0) : F_fraction [.int p, .int q] = some (frD (Rat.divInt p q)) := by
  have hg : 0 < Int.gcd p q := Int.gcd_pos_of_ne_zero_right p hq
  have hg' : (Int.gcd p q : Int) ≠ 0 := by omega
  have d1 : (Int.gcd p q : Int) ∣ p := Int.gcd_dvd_left ..
  have d2 : (Int.gcd p q : Int) ∣ q := Int.gcd_dvd_right ..
  rw [fr_parts hq]
  have hs : (q / (Int.gcd p q : Int) < 0) ↔ q < 0 := by
    constructor
    · intro h
      rcases Int.lt_or_le q 0 with z | z
      · exact z
      · have := Int.ediv_nonneg z (show (0 : Int) ≤ (Int.gcd p q : Int) by omega)
        omega
    · intro h
      exact Int.ediv_neg_of_neg_of_pos h (by omega)
  have hc := F_common_eq p q
  have e1 := fdiv_exact hg' d1
  have e2 := fdiv_exact hg' d2
  generalize (Int.gcd p q : Int) = g at *
  refine run_of (w := ([], 0, 0, 0)) rfl ?_
  unfold g_fraction
  simp [hc, hg', e1, e2]
  by_cases h : q < 0
  · rw [decide_eq_true (hs.mpr h)]
    simp [Int.sign_eq_neg_one_of_neg h]
  · rw [decide_eq_false (fun z => h (hs.mp z))]
    have h2 : 0 < q := by omega
    simp [Int.sign_eq_one_of_pos h2]
theorem nat_sub0 (x : Int) : max x (0 - x) = (x.natAbs : Int) := by
  rw [Int.max_def]
  split <;> omega
/-! the four operations -/
theorem den_ne (q : Rat) : (q.den : Int) ≠ 0 := by
  have := q.den_nz
  omega
theorem pow_lt_mul {a b m n : Nat} (h1 : a < 2 ^ m) (h2 : b < 2 ^ n) : a * b < 2 ^ (m + n) := by
  rw [Nat.pow_add]
  exact Nat.mul_lt_mul'' h1 h2
theorem add_eq (a b : Rat) : a + b = Rat.divInt (a.num * b.den + b.num * a.den) ((a.den : Int) * b.den) := by
  rw [Rat.add_def', ← Rat.divInt_ofNat]
  rfl
theorem sub_eq (a b : Rat) : a - b = Rat.divInt (a.num * b.den - b.num * a.den) ((a.den : Int) * b.den) := by
  rw [Rat.sub_def', ← Rat.divInt_ofNat]
  rfl
theorem mul_eq (a b : Rat) : a * b = Rat.divInt (a.num * b.num) ((a.den : Int) * b.den) := by
  rw [Rat.mul_def', ← Rat.divInt_ofNat]
  rfl
theorem div_eq (a b : Rat) : a / b = Rat.divInt (a.num * b.den) (a.den * b.num) := by
  rw [Rat.div_def, Rat.inv_def]
  conv => lhs; rw [← Rat.num_divInt_den a]
  rw [Rat.divInt_mul_divInt]
theorem Sz.add {m n : Nat} {a b : Rat} (ha : Sz m a) (hb : Sz n b) : Sz (m + n + 1) (a + b) := by
  rw [add_eq]
  have h1 := pow_lt_mul ha.1 hb.2
  have h2 := pow_lt_mul hb.1 ha.2
  have h3 := pow_lt_mul ha.2 hb.2
  rw [Nat.add_comm n m] at h2
  have e : 2 ^ (m + n + 1) = 2 ^ (m + n) + 2 ^ (m + n) := by rw [Nat.pow_succ]; omega
  refine Sz.divInt ?_ ?_ (Int.mul_ne_zero (den_ne a) (den_ne b))
  · have z := Int.natAbs_add_le (a.num * b.den) (b.num * a.den)
    rw [Int.natAbs_mul, Int.natAbs_mul, Int.natAbs_natCast, Int.natAbs_natCast] at z
    omega
  · rw [Int.natAbs_mul, Int.natAbs_natCast, Int.natAbs_natCast]
    omega
theorem Sz.neg {m : Nat} {a : Rat} (ha : Sz m a) : Sz m (-a) := ⟨by rw [Rat.neg_num, Int.natAbs_neg]; exact ha.1, by rw [Rat.neg_den]; exact ha.2⟩
theorem Sz.sub {m n : Nat} {a b : Rat} (ha : Sz m a) (hb : Sz n b) : Sz (m + n + 1) (a - b) := by
  rw [Rat.sub_eq_add_neg]
  exact ha.add hb.neg
theorem Sz.mul {m n : Nat} {a b : Rat} (ha : Sz m a) (hb : Sz n b) : Sz (m + n) (a * b) := by
  rw [mul_eq]
  have h1 := pow_lt_mul ha.1 hb.1
  have h3 := pow_lt_mul ha.2 hb.2
  refine Sz.divInt ?_ ?_ (Int.mul_ne_zero (den_ne a) (den_ne b))
  · rw [Int.natAbs_mul]; exact h1
  · rw [Int.natAbs_mul, Int.natAbs_natCast, Int.natAbs_natCast]; exact h3
theorem num_ne {b : Rat} (h : b ≠ 0) : b.num ≠ 0 := fun z => h (Rat.num_eq_zero.mp z)
theorem Sz.div {m n : Nat} {a b : Rat} (ha : Sz m a) (hb : Sz n b) (h : b ≠ 0) : Sz (m + n) (a / b) := by
  rw [div_eq]
  have h1 := pow_lt_mul ha.1 hb.2
  have h3 := pow_lt_mul ha.2 hb.1
  refine Sz.divInt ?_ ?_ (Int.mul_ne_zero (den_ne a) (num_ne h))
  · rw [Int.natAbs_mul, Int.natAbs_natCast]; exact h1
  · rw [Int.natAbs_mul, Int.natAbs_natCast]; exact h3
theorem Sz.int {n : Nat} {i : Int} (h : i.natAbs < 2 ^ n) (h1 : 1 ≤ n) : Sz n (i : Rat) := by
  refine ⟨h, ?_⟩
  show 1 < 2 ^ n
  have := Nat.pow_le_pow_right (n := 2) (by decide) h1
  omega
theorem Sz.nd {n : Nat} {q : Rat} (h : Sz n q) : (q.den : Int).natAbs < 2 ^ n := h.2
section
variable {a b : Rat} {m n : Nat}
theorem F_plus_eq (ha : Sz m a) (hb : Sz n b) (h : m + n < 134000000) : F_plus [frD a, frD b] = some (frD (a + b)) := by
  have h1 := mulOk_of ha.1 hb.nd h
  have h2 := mulOk_of hb.1 ha.nd (by omega)
  have h3 := mulOk_of ha.nd hb.nd h
  have hf := F_fraction_eq (p := a.num * b.den + b.num * a.den) (q := (a.den : Int) * b.den) (Int.mul_ne_zero (den_ne a) (den_ne b))
  rw [← add_eq] at hf
  refine run_of (w := ([], 0, 0, 0)) rfl ?_
  unfold g_plus
  simp [h1, h2, h3, hf, frD]
theorem F_less_eq (ha : Sz m a) (hb : Sz n b) (h : m + n < 134000000) : F_less [frD a, frD b] = some (frD (a - b)) := by
  have h1 := mulOk_of ha.1 hb.nd h
  have h2 := mulOk_of hb.1 ha.nd (by omega)
  have h3 := mulOk_of ha.nd hb.nd h
  have hf := F_fraction_eq (p := a.num * b.den - b.num * a.den) (q := (a.den : Int) * b.den) (Int.mul_ne_zero (den_ne a) (den_ne b))
  rw [← sub_eq] at hf
  refine run_of (w := ([], 0, 0, 0)) rfl ?_
  unfold g_less
  simp [h1, h2, h3, hf, frD]
theorem F_times_eq (ha : Sz m a) (hb : Sz n b) (h : m + n < 134000000) : F_times [frD a, frD b] = some (frD (a * b)) := by
  have h1 := mulOk_of ha.1 hb.1 h
  have h3 := mulOk_of ha.nd hb.nd h
  have hf := F_fraction_eq (p := a.num * b.num) (q := (a.den : Int) * b.den) (Int.mul_ne_zero (den_ne a) (den_ne b))
  rw [← mul_eq] at hf
  refine run_of (w := ([], 0, 0, 0)) rfl ?_
  unfold g_times
  simp [h1, h3, hf, frD]
theorem F_over_eq (ha : Sz m a) (hb : Sz n b) (h : m + n < 134000000) (h0 : b ≠ 0) : F_over [frD a, frD b] = some (frD (a / b)) := by
  have h1 := mulOk_of ha.1 hb.nd h
  have h3 := mulOk_of ha.nd hb.1 h
  have hf := F_fraction_eq (p := a.num * b.den) (q := (a.den : Int) * b.num) (Int.mul_ne_zero (den_ne a) (num_ne h0))
  rw [← div_eq] at hf
  refine run_of (w := ([], 0, 0, 0)) rfl ?_
  unfold g_over
  simp [h1, h3, hf, frD]
end
/-! the law's own -/
theorem fr_loop {r : DL.Row} {u v : Sl} : ∀ (n x y : Nat), y < n → whGo (mTest (mOp dNe (mVarB 3) (mRet (.int 0)))) (gPar 2 3 (mBind (mVar 3) fun d => mRet (.s d)) (mBind (mOp dMod (mVarB 2) (mVarB 3)) fun d => mRet (.s d))) n ⟨r, [u, v, .s (.int (x : Nat)), .s (.int (y : Nat))]⟩ = some (.nx ⟨r, [u, v, .s (.int (Nat.gcd x y : Nat)), .s (.int 0)]⟩) := by
  intro n
  induction n with
  | zero => intro x y h; omega
  | succ n ih =>
    intro x y h
    rw [e_wh]
    by_cases hy : y = 0
    · subst hy
      simp
    · have hy' : (y : Int) ≠ 0 := by omega
      simp [hy', hy]
      rw [fmod_nat]
      have := ih y (x % y) (by have := Nat.mod_lt x (Nat.pos_of_ne_zero hy); omega)
      rw [this, Nat.gcd_comm x y, Nat.gcd_rec y x]
      rw [Nat.gcd_comm]
theorem F_law_fr_eq {p q : Int} (hq : q ≠ 0) : F_law_fr [.int p, .int q] = some (frD (Rat.divInt p q)) := by
  have hg : 0 < Int.gcd p q := Int.gcd_pos_of_ne_zero_right p hq
  have hg' : (Int.gcd p q : Int) ≠ 0 := by omega
  have d1 : (Int.gcd p q : Int) ∣ p := Int.gcd_dvd_left ..
  have d2 : (Int.gcd p q : Int) ∣ q := Int.gcd_dvd_right ..
  have e1 := fdiv_exact hg' d1
  have e2 := fdiv_exact hg' d2
  have d1' : -(Int.gcd p q : Int) ∣ p := Int.neg_dvd.mpr d1
  have d2' : -(Int.gcd p q : Int) ∣ q := Int.neg_dvd.mpr d2
  have n1 : -(Int.gcd p q : Int) ≠ 0 := by omega
  have e3 := fdiv_exact n1 d1'
  have e4 := fdiv_exact n1 d2'
  have hl := fr_loop (r := ([], 0, 0, 0)) (u := .s (.int p)) (v := .s (.int q)) (q.natAbs + 1) p.natAbs q.natAbs (by omega)
  rw [show ((Nat.gcd p.natAbs q.natAbs : Nat) : Int) = (Int.gcd p q : Int) from rfl] at hl
  rw [fr_parts hq]
  generalize (Int.gcd p q : Int) = g at *
  refine run_of (w := ([], 0, 0, 0)) rfl ?_
  unfold g_law_fr
  simp only [e_seq, e_gpar, e_bind, e_op, e_varB, e_get, List.map, List.replicate, List.cons_append, List.nil_append, List.getD_cons_zero, List.getD_cons_succ, slB_s, e_oS, bnd_some, e_wr, e_ret, d_sub, d_max2, nat_sub0, e_set, List.set_cons_zero, List.set_cons_succ, thn_nx]
  simp only [e_gwh, fuel_law_fr, e_get, List.getD_cons_zero, List.getD_cons_succ, Int.natAbs_natCast]
  rw [hl]
  by_cases h : 0 < q
  · simp [h, hg', e1, e2, Int.sign_eq_one_of_pos h]
  · have h2 : q < 0 := by omega
    simp [h, hg', n1, e3, e4, Int.sign_eq_neg_one_of_neg h2]
section
variable {a b : Rat} {m n : Nat}
theorem F_law_plus_eq (ha : Sz m a) (hb : Sz n b) (h : m + n < 134000000) : F_law_plus [frD a, frD b] = some (frD (a + b)) := by
  have h1 := mulOk_of ha.1 hb.nd h
  have h2 := mulOk_of hb.1 ha.nd (by omega)
  have h3 := mulOk_of ha.nd hb.nd h
  have hf := F_law_fr_eq (p := a.num * b.den + b.num * a.den) (q := (a.den : Int) * b.den) (Int.mul_ne_zero (den_ne a) (den_ne b))
  rw [← add_eq] at hf
  refine run_of (w := ([], 0, 0, 0)) rfl ?_
  unfold g_law_plus
  simp [h1, h2, h3, hf, frD]
theorem F_law_times_eq (ha : Sz m a) (hb : Sz n b) (h : m + n < 134000000) : F_law_times [frD a, frD b] = some (frD (a * b)) := by
  have h1 := mulOk_of ha.1 hb.1 h
  have h3 := mulOk_of ha.nd hb.nd h
  have hf := F_law_fr_eq (p := a.num * b.num) (q := (a.den : Int) * b.den) (Int.mul_ne_zero (den_ne a) (den_ne b))
  rw [← mul_eq] at hf
  refine run_of (w := ([], 0, 0, 0)) rfl ?_
  unfold g_law_times
  simp [h1, h3, hf, frD]
theorem F_law_less_eq (ha : Sz m a) (hb : Sz n b) (h : m + n < 134000000) : F_law_less [frD a, frD b] = some (frD (a - b)) := by
  have hf := F_law_plus_eq ha hb.neg h
  rw [← Rat.sub_eq_add_neg] at hf
  refine run_of (w := ([], 0, 0, 0)) rfl ?_
  unfold g_law_less
  simp [frD] at hf ⊢
  rw [hf]
  rfl
theorem F_law_below_eq (ha : Sz m a) (hb : Sz n b) (h : m + n < 134000000) : F_law_below [frD a, frD b] = some (.bool (decide (a < b))) := by
  have h1 := mulOk_of ha.1 hb.nd h
  have h2 := mulOk_of hb.1 ha.nd (by omega)
  refine run_of (w := ([], 0, 0, 0)) rfl ?_
  unfold g_law_below
  simp [h1, h2, frD, Rat.lt_iff]
end
end PX

namespace PX
/-! ### finite sums of rationals -/
def sumN : Nat → (Nat → Rat) → Rat
  | 0, _ => 0
  | n + 1, f => sumN n f + f n
theorem sumN_congr {n : Nat} {f g : Nat → Rat} (h : ∀ i, i < n → f i = g i) : sumN n f = sumN n g := by
  induction n with
  | zero => rfl
  | succ n ih =>
    show sumN n f + f n = sumN n g + g n
    rw [ih fun i hi => h i (by omega), h n (by omega)]
theorem sumN_zero {n : Nat} {f : Nat → Rat} (h : ∀ i, i < n → f i = 0) : sumN n f = 0 := by
  induction n with
  | zero => rfl
  | succ n ih =>
    show sumN n f + f n = 0
    rw [ih fun i hi => h i (by omega), h n (by omega), Rat.add_zero]
theorem sumN_add {n : Nat} {f g : Nat → Rat} : sumN n (fun i => f i + g i) = sumN n f + sumN n g := by
  induction n with
  | zero => show (0 : Rat) = 0 + 0; rw [Rat.add_zero]
  | succ n ih =>
    show sumN n (fun i => f i + g i) + (f n + g n) = (sumN n f + f n) + (sumN n g + g n)
    rw [ih]
    grind
theorem sumN_mul {n : Nat} {f : Nat → Rat} {c : Rat} : sumN n (fun i => c * f i) = c * sumN n f := by
  induction n with
  | zero => show (0 : Rat) = c * 0; rw [Rat.mul_zero]
  | succ n ih =>
    show sumN n (fun i => c * f i) + c * f n = c * (sumN n f + f n)
    rw [ih]
    grind
theorem sumN_mul_right {n : Nat} {f : Nat → Rat} {c : Rat} : sumN n (fun i => f i * c) = sumN n f * c := by
  rw [Rat.mul_comm, ← sumN_mul]
  exact sumN_congr fun i _ => Rat.mul_comm _ _
theorem sumN_neg {n : Nat} {f : Nat → Rat} : sumN n (fun i => - f i) = - sumN n f := by
  have h := sumN_mul (n := n) (f := f) (c := -1)
  have e : sumN n (fun i => - f i) = sumN n (fun i => -1 * f i) := sumN_congr fun i _ => by grind
  rw [e, h]
  grind
theorem sumN_sub {n : Nat} {f g : Nat → Rat} : sumN n (fun i => f i - g i) = sumN n f - sumN n g := by
  have e : sumN n (fun i => f i - g i) = sumN n (fun i => f i + - g i) := sumN_congr fun i _ => by grind
  rw [e, sumN_add, sumN_neg]
  grind
theorem sumN_comm {n m : Nat} {f : Nat → Nat → Rat} : sumN n (fun i => sumN m fun j => f i j) = sumN m fun j => sumN n fun i => f i j := by
  induction n with
  | zero =>
    show (0 : Rat) = _
    rw [sumN_zero]
    intro j _
    rfl
  | succ n ih =>
    show sumN n (fun i => sumN m fun j => f i j) + sumN m (fun j => f n j) = sumN m fun j => (sumN n fun i => f i j) + f n j
    rw [ih, sumN_add]
theorem sumN_nonneg {n : Nat} {f : Nat → Rat} (h : ∀ i, i < n → 0 ≤ f i) : 0 ≤ sumN n f := by
  induction n with
  | zero => exact Rat.le_refl
  | succ n ih =>
    have h1 := ih fun i hi => h i (by omega)
    have h2 := h n (by omega)
    show 0 ≤ sumN n f + f n
    exact Rat.add_nonneg h1 h2
theorem sumN_split {n m : Nat} {f : Nat → Rat} : sumN (n + m) f = sumN n f + sumN m fun j => f (n + j) := by
  induction m with
  | zero => show sumN n f = sumN n f + 0; rw [Rat.add_zero]
  | succ m ih =>
    show sumN (n + m) f + f (n + m) = sumN n f + (sumN m (fun j => f (n + j)) + f (n + m))
    rw [ih]
    grind
/-- a sum with one term -/
theorem sumN_one {n a : Nat} {f : Nat → Rat} (ha : a < n) (h : ∀ i, i < n → i ≠ a → f i = 0) : sumN n f = f a := by
  induction n with
  | zero => omega
  | succ n ih =>
    show sumN n f + f n = f a
    by_cases e : a = n
    · subst e
      rw [sumN_zero fun i hi => h i (by omega) (by omega), Rat.zero_add]
    · rw [ih (by omega) fun i hi hn => h i (by omega) hn, h n (by omega) (fun z => e z.symm), Rat.add_zero]
theorem sumN_pos {n a : Nat} {f : Nat → Rat} (ha : a < n) (h : ∀ i, i < n → 0 ≤ f i) (hp : 0 < f a) : 0 < sumN n f := by
  induction n with
  | zero => omega
  | succ n ih =>
    show 0 < sumN n f + f n
    by_cases e : a = n
    · subst e
      have := sumN_nonneg (n := a) (f := f) fun i hi => h i (by omega)
      grind
    · have h1 := ih (by omega) fun i hi => h i (by omega)
      have h2 := h n (by omega)
      grind
/-! ### tables: the pivot step -/
abbrev Tab := Nat → Nat → Rat
def swapR (T : Tab) (a p : Nat) : Tab := fun i => if i = p then T a else if i = a then T p else T i
def normR (T : Tab) (a : Nat) : Tab := fun i j => if i = a then T a j / T a a else T i j
def elimR (T : Tab) (a : Nat) : Tab := fun i j => if i = a then T a j else T i j - T i a * T a j
def stepR (T : Tab) (a p : Nat) : Tab := elimR (normR (swapR T a p) a) a
/-- what a table's rows send to nought -/
def Ker (n w : Nat) (T : Tab) (z : Nat → Rat) : Prop := ∀ i, i < n → sumN w (fun j => T i j * z j) = 0
theorem ker_swap {n w a p : Nat} {T : Tab} {z : Nat → Rat} (ha : a < n) (hp : p < n) : Ker n w (swapR T a p) z ↔ Ker n w T z := by
  have one : ∀ T : Tab, Ker n w T z → Ker n w (swapR T a p) z := fun T h i hi => by
    unfold swapR
    by_cases h1 : i = p
    · simp only [h1, if_true]
      exact h a ha
    · by_cases h2 : i = a
      · simp only [h1, h2, if_false, if_true]
        split
        · exact h a ha
        · exact h p hp
      · simp only [h1, h2, if_false]
        exact h i hi
  refine ⟨fun h => ?_, one T⟩
  have z := one _ h
  have e : swapR (swapR T a p) a p = T := by
    funext i
    unfold swapR
    by_cases h1 : i = p
    · subst h1
      by_cases h2 : a = i
      · subst h2; simp
      · simp [h2]
    · by_cases h2 : i = a
      · subst h2; simp [h1]
      · simp [h1, h2]
  rw [e] at z
  exact z
theorem ker_norm {n w a : Nat} {T : Tab} {z : Nat → Rat} (h0 : T a a ≠ 0) : Ker n w (normR T a) z ↔ Ker n w T z := by
  have e : ∀ i, sumN w (fun j => normR T a i j * z j) = if i = a then (T a a)⁻¹ * sumN w (fun j => T a j * z j) else sumN w fun j => T i j * z j := fun i => by
    unfold normR
    by_cases h : i = a
    · simp only [h, if_true]
      rw [← sumN_mul]
      exact sumN_congr fun j _ => by rw [Rat.div_def]; grind
    · simp only [h, if_false]
  refine ⟨fun h i hi => ?_, fun h i hi => ?_⟩
  · have q := h i hi
    rw [e] at q
    by_cases hia : i = a
    · rw [if_pos hia] at q
      subst hia
      rcases Rat.mul_eq_zero.mp q with q | q
      · have := Rat.mul_inv_cancel _ h0
        rw [q, Rat.mul_zero] at this
        exact absurd this (by decide)
      · exact q
    · rw [if_neg hia] at q; exact q
  · rw [e]
    by_cases hia : i = a
    · rw [if_pos hia]
      subst hia
      rw [h i hi, Rat.mul_zero]
    · rw [if_neg hia]; exact h i hi
theorem ker_elim {n w a : Nat} {T : Tab} {z : Nat → Rat} (ha : a < n) : Ker n w (elimR T a) z ↔ Ker n w T z := by
  have e : ∀ i, sumN w (fun j => elimR T a i j * z j) = if i = a then sumN w (fun j => T a j * z j) else sumN w (fun j => T i j * z j) - T i a * sumN w (fun j => T a j * z j) := fun i => by
    unfold elimR
    by_cases h : i = a
    · simp only [h, if_true]
    · simp only [h, if_false]
      rw [← sumN_mul, ← sumN_sub]
      exact sumN_congr fun j _ => by grind
  refine ⟨fun h i hi => ?_, fun h i hi => ?_⟩
  · have qa := h a ha
    rw [e, if_pos rfl] at qa
    have q := h i hi
    rw [e] at q
    by_cases hia : i = a
    · subst hia; exact qa
    · rw [if_neg hia, qa] at q
      grind
  · rw [e]
    by_cases hia : i = a
    · rw [if_pos hia]; exact h a ha
    · rw [if_neg hia, h i hi, h a ha]
      grind
/-- the first a columns are unit -/
def UnitTo (n a : Nat) (T : Tab) : Prop := ∀ i j, i < n → j < a → T i j = if i = j then 1 else 0
theorem step_ker {n w a p : Nat} {T : Tab} {z : Nat → Rat} (ha : a < n) (hp : p < n) (h0 : T p a ≠ 0) : Ker n w (stepR T a p) z ↔ Ker n w T z := by
  unfold stepR
  rw [ker_elim ha, ker_norm, ker_swap ha hp]
  unfold swapR
  by_cases h : a = p
  · subst h; simpa using h0
  · simpa [h] using h0
theorem step_unit {n a p : Nat} {T : Tab} (ha : a < n) (hap : a ≤ p) (hp : p < n) (h0 : T p a ≠ 0) (U : UnitTo n a T) : UnitTo n (a + 1) (stepR T a p) := by
  have hs : ∀ i, (swapR T a p) i = if i = p then T a else if i = a then T p else T i := fun i => rfl
  have haa : swapR T a p a = T p := by
    rw [hs]
    by_cases h : a = p
    · subst h; simp
    · simp [h]
  have hz : ∀ j, j < a → T p j = 0 := fun j hj => by rw [U p j hp hj, if_neg (by omega)]
  have Us : ∀ i j, i < n → j < a → swapR T a p i j = if i = j then 1 else 0 := fun i j hi hj => by
    rw [hs]
    by_cases h1 : i = p
    · rw [if_pos h1, U a j ha hj, if_neg (by omega), if_neg (by omega)]
    · rw [if_neg h1]
      by_cases h2 : i = a
      · rw [if_pos h2, hz j hj, if_neg (by omega)]
      · rw [if_neg h2, U i j hi hj]
  have hinv := Rat.mul_inv_cancel _ h0
  intro i j hi hj
  unfold stepR elimR normR
  by_cases hja : j = a
  · subst hja
    by_cases hia : i = j
    · simp only [hia, if_true]
      rw [haa, Rat.div_def, hinv]
    · simp only [hia, if_false, if_true]
      rw [haa, Rat.div_def, hinv]
      grind
  · have hj' : j < a := by omega
    by_cases hia : i = a
    · simp only [hia, if_true]
      rw [haa, hz j hj', Rat.div_def, Rat.zero_mul, if_neg (by omega)]
    · simp only [hia, if_false, if_true]
      rw [haa, hz j hj', Us i j hi hj', Rat.div_def, Rat.zero_mul, Rat.mul_zero]
      grind
/-- no pivot: a null vector -/
theorem no_pivot {n w a : Nat} {T : Tab} (ha : a < n) (hw : n ≤ w) (U : UnitTo n a T) (h : ∀ i, a ≤ i → i < n → T i a = 0) : ∃ z : Nat → Rat, z a ≠ 0 ∧ (∀ j, n ≤ j → z j = 0) ∧ Ker n w T z := by
  refine ⟨fun j => if j < a then - T j a else if j = a then 1 else 0, ?_, fun j hj => ?_, fun i hi => ?_⟩
  · simp only [Nat.lt_irrefl, if_false, if_true]
    decide
  · show (if j < a then - T j a else if j = a then 1 else 0) = (0 : Rat)
    rw [if_neg (by omega), if_neg (by omega)]
  · obtain ⟨m, rfl⟩ : ∃ m, w = (a + 1) + m := ⟨w - (a + 1), by omega⟩
    rw [sumN_split]
    rw [sumN_zero (n := m)]
    · show (sumN a _ + _) + 0 = 0
      simp only [Nat.lt_irrefl, if_false, if_true]
      have e : sumN a (fun j => T i j * (if j < a then - T j a else if j = a then 1 else 0)) = sumN a (fun j => if i = j then - T j a else 0) := sumN_congr fun j hj => by
        rw [if_pos hj, U i j hi hj]
        by_cases hij : i = j
        · simp only [hij, if_true]; grind
        · simp only [hij, if_false]; grind
      rw [e]
      by_cases hia : i < a
      · rw [sumN_one hia fun j hj hn => if_neg fun z => hn z.symm]
        simp only [if_true]
        grind
      · rw [sumN_zero fun j hj => if_neg (by omega), h i (by omega) hi]
        grind
    · intro j _
      show T i (a + 1 + j) * (if a + 1 + j < a then - T (a + 1 + j) a else if a + 1 + j = a then 1 else 0) = 0
      rw [if_neg (by omega), if_neg (by omega), Rat.mul_zero]
/-- at the end: the solutions -/
theorem unit_sol {n m s : Nat} {T : Tab} (hs : s < m) (U : UnitTo n n T) (x : Nat → Rat) : Ker n (n + m) T (fun j => if j < n then x j else if j = n + s then -1 else 0) ↔ ∀ i, i < n → x i = T i (n + s) := by
  have e : ∀ i, i < n → sumN (n + m) (fun j => T i j * (if j < n then x j else if j = n + s then -1 else 0)) = x i - T i (n + s) := fun i hi => by
    rw [sumN_split]
    have e1 : sumN n (fun j => T i j * (if j < n then x j else if j = n + s then -1 else 0)) = x i := by
      rw [sumN_one hi]
      · rw [if_pos hi, U i i hi hi, if_pos rfl, Rat.one_mul]
      · intro j hj hn
        rw [U i j hi hj, if_neg (fun z => hn z.symm), Rat.zero_mul]
    have e2 : sumN m (fun j => T i (n + j) * (if n + j < n then x (n + j) else if n + j = n + s then -1 else 0)) = - T i (n + s) := by
      rw [sumN_one hs]
      · rw [if_neg (by omega), if_pos rfl]
        grind
      · intro j hj hn
        rw [if_neg (by omega), if_neg (by omega), Rat.mul_zero]
    rw [e1, e2]
    grind
  refine ⟨fun h i hi => ?_, fun h i hi => ?_⟩
  · have q := h i hi
    rw [e i hi] at q
    grind
  · rw [e i hi, h i hi]
    grind
theorem ker_sol {n m s : Nat} {R S : Tab} (hs : s < m) (x : Nat → Rat) : Ker n (n + m) (fun i j => if j < n then R i j else S (j - n) i) (fun j => if j < n then x j else if j = n + s then -1 else 0) ↔ ∀ i, i < n → sumN n (fun j => R i j * x j) = S s i := by
  have e : ∀ i, i < n → sumN (n + m) (fun j => (if j < n then R i j else S (j - n) i) * (if j < n then x j else if j = n + s then -1 else 0)) = sumN n (fun j => R i j * x j) - S s i := fun i hi => by
    rw [sumN_split]
    have e1 : sumN n (fun j => (if j < n then R i j else S (j - n) i) * (if j < n then x j else if j = n + s then -1 else 0)) = sumN n (fun j => R i j * x j) := sumN_congr fun j hj => by simp only [if_pos hj]
    have e2 : sumN m (fun j => (if n + j < n then R i (n + j) else S (n + j - n) i) * (if n + j < n then x (n + j) else if n + j = n + s then -1 else 0)) = - S s i := by
      rw [sumN_one hs]
      · rw [if_neg (by omega), if_neg (by omega), if_pos rfl, Nat.add_sub_cancel_left]
        grind
      · intro j hj hn
        rw [if_neg (by omega), if_neg (by omega), if_neg (by omega), Rat.mul_zero]
    rw [e1, e2]
    grind
  refine ⟨fun h i hi => ?_, fun h i hi => ?_⟩
  · have q := h i hi
    rw [e i hi] at q
    grind
  · rw [e i hi, h i hi]
    grind
/-- .. of a null vector -/
theorem ker_null {n m : Nat} {R S : Tab} {z : Nat → Rat} (hz : ∀ j, n ≤ j → z j = 0) (h : Ker n (n + m) (fun i j => if j < n then R i j else S (j - n) i) z) : ∀ i, i < n → sumN n (fun j => R i j * z j) = 0 := by
  intro i hi
  have q := h i hi
  rw [sumN_split] at q
  rw [sumN_zero (n := m) (fun j _ => by rw [hz _ (by omega), Rat.mul_zero]), Rat.add_zero] at q
  rw [← q]
  exact sumN_congr fun j hj => by simp only [if_pos hj]
end PX

namespace PX
open PySem L2 DL PG
/-! ### vectors -/
/-- x holds the things f 0 .. f (n - 1) -/
abbrev Its (x : D) (n : Nat) (f : Nat → D) : Prop := dItems x = some (vecF n f)
def vL (n : Nat) (v : Nat → Rat) : D := .list (vecF n fun i => frD (v i))
def vT (n : Nat) (v : Nat → Rat) : D := .tuple (vecF n fun i => frD (v i))
def iL (n : Nat) (v : Nat → Int) : D := .list (vecF n fun i => .int (v i))
def iT (n : Nat) (v : Nat → Int) : D := .tuple (vecF n fun i => .int (v i))
theorem its_vL {n : Nat} {v : Nat → Rat} : Its (vL n v) n fun i => frD (v i) := rfl
theorem its_vT {n : Nat} {v : Nat → Rat} : Its (vT n v) n fun i => frD (v i) := rfl
theorem its_iL {n : Nat} {v : Nat → Int} : Its (iL n v) n fun i => .int (v i) := rfl
theorem its_iT {n : Nat} {v : Nat → Int} : Its (iT n v) n fun i => .int (v i) := rfl
theorem zp2_its {x y : D} {n : Nat} {f g : Nat → D} (hx : Its x n f) (hy : Its y n g) : zp2 x y = some (vecF n fun i => .tuple [f i, g i]) := by
  unfold zp2
  rw [hx, hy]
  simp only [vecF_zip]
theorem zp3_its {x y z : D} {n : Nat} {f g h : Nat → D} (hx : Its x n f) (hy : Its y n g) (hz : Its z n h) : zp3 x y z = some (vecF n fun i => .tuple [f i, g i, h i]) := by
  unfold zp3
  rw [hx, hy, hz]
  simp only [vecF_zip3]
theorem ix_its {x : D} {n k : Nat} {f : Nat → D} (hx : Its x n f) (h : k < n) : dIx x (.int (k : Int)) = some (f k) := by
  cases x with
  | list ds =>
    rw [d_ixL]
    cases (show ds = vecF n f from Option.some.inj hx)
    exact atI_vec h
  | tuple ds =>
    rw [d_ixT]
    cases (show ds = vecF n f from Option.some.inj hx)
    exact atI_vec h
  | _ => cases hx
theorem len_its {x : D} {n : Nat} {f : Nat → D} (hx : Its x n f) : dLen x = some (.int (n : Nat)) := by
  unfold dLen
  rw [hx]
  simp
theorem lst_its {n : Nat} {f : Nat → D} (h : n ≤ 1000000) : dLst (vecF n f) = some (vecF n f) := d_lst (by simpa using h)
section
variable {n m k l : Nat} {x y : D} {u v : Nat → Rat} {c : Rat}
theorem F_added_eq (hx : Its x n fun i => frD (u i)) (hy : Its y n fun i => frD (v i)) (hn : n ≤ 1000000) (hu : ∀ i, i < n → Sz m (u i)) (hv : ∀ i, i < n → Sz k (v i)) (hc : Sz l c) (h : m + k + l < 134000000) :
    F_added [x, y, frD c] = some (vL n fun i => u i + c * v i) := by
  refine run_of (w := ([], 0, 0, 0)) rfl ?_
  unfold g_added
  simp [zp2_its hx hy, lst_its hn]
  rw [lcGo_vec (φ := fun i => frD (u i + c * v i))]
  · rfl
  · intro i hi
    refine ⟨⟨([], 0, 0, 0), [.s x, .s y, .s (frD c), .s (frD (u i)), .s (frD (v i))]⟩, ?_, rfl, ?_⟩
    · simp [Ev.wipe, wipeS]
    · have h1 := F_times_eq hc (hv i hi) (by omega)
      have h2 := F_plus_eq (hu i hi) (hc.mul (hv i hi)) (by omega)
      simp [h1, h2]
theorem frD_int (i : Int) : frD (i : Rat) = .tuple [.int i, .int 1] := rfl
theorem frD_0 : frD 0 = .tuple [.int 0, .int 1] := rfl
theorem frD_1 : frD 1 = .tuple [.int 1, .int 1] := rfl
theorem sz0 : Sz 1 0 := ⟨by decide, by decide⟩
theorem sz_sum {f : Nat → Rat} {b : Nat} : ∀ {n : Nat}, (∀ i, i < n → Sz b (f i)) → Sz (1 + n * (b + 1)) (sumN n f)
  | 0, _ => sz0.mono (by omega)
  | n + 1, h => by
    have h1 := sz_sum (n := n) fun i hi => h i (by omega)
    have h2 := h1.add (h n (by omega))
    refine h2.mono ?_
    have : (n + 1) * (b + 1) = n * (b + 1) + (b + 1) := Nat.succ_mul _ _
    omega
theorem F_inner_eq {r : Nat → Int} (hx : Its x n fun i => .int (r i)) (hy : Its y n fun i => frD (v i)) (hr : ∀ i, i < n → (r i).natAbs < 2 ^ m) (h1 : 1 ≤ m) (hv : ∀ i, i < n → Sz k (v i)) (h : 1 + n * (m + k + 1) + m + k < 134000000) :
    F_inner [x, y] = some (frD (sumN n fun i => (r i : Rat) * v i)) := by
  refine run_of (w := ([], 0, 0, 0)) rfl ?_
  unfold g_inner
  simp [zp2_its hx hy]
  refine thn_for (fun i ρ => ∃ s3 s4, ρ = ⟨([], 0, 0, 0), [.s x, .s y, .s (frD (sumN i fun i => (r i : Rat) * v i)), s3, s4]⟩) ⟨_, _, rfl⟩ (fun i ρ hi hJ => ?_) (fun ρ hJ => ?_)
  ·
      obtain ⟨s3, s4, rfl⟩ := hJ
      have z1 := Sz.int (hr i hi) h1
      have e1 := F_times_eq z1 (hv i hi) (by omega)
      have z2 := sz_sum (n := i) (f := fun i => (r i : Rat) * v i) (b := m + k) fun j hj => (Sz.int (hr j (by omega)) h1).mul (hv j (by omega))
      have hb : i * (m + k + 1) ≤ n * (m + k + 1) := Nat.mul_le_mul_right _ (by omega)
      have e2 := F_plus_eq z2 (z1.mul (hv i hi)) (by omega)
      refine ⟨⟨([], 0, 0, 0), [.s x, .s y, .s (frD (sumN (i + 1) fun i => (r i : Rat) * v i)), .s (.int (r i)), .s (frD (v i))]⟩, ?_, ⟨_, _, rfl⟩⟩
      rw [frD_int] at e1
      simp [e1, e2]
      rfl
  · obtain ⟨s3, s4, rfl⟩ := hJ
    simp
theorem F_law_inner_eq {r : Nat → Int} (hx : Its x n fun i => .int (r i)) (hy : Its y n fun i => frD (v i)) (hn : n ≤ 1000000) (hr : ∀ i, i < n → (r i).natAbs < 2 ^ m) (h1 : 1 ≤ m) (hv : ∀ i, i < n → Sz k (v i)) (h : 1 + n * (m + k + 1) + m + k < 134000000) :
    F_law_inner [x, y] = some (frD (sumN n fun i => (r i : Rat) * v i)) := by
  refine run_of (w := ([], 0, 0, 0)) rfl ?_
  unfold g_law_inner
  simp [len_its hx, d_range hn]
  refine thn_for (fun i ρ => ∃ s3, ρ = ⟨([], 0, 0, 0), [.s x, .s y, .s (frD (sumN i fun i => (r i : Rat) * v i)), s3]⟩) ⟨_, rfl⟩ (fun i ρ hi hJ => ?_) (fun ρ hJ => ?_)
  ·
      obtain ⟨s3, rfl⟩ := hJ
      have z1 := Sz.int (hr i hi) h1
      have e1 := F_law_times_eq z1 (hv i hi) (by omega)
      have z2 := sz_sum (n := i) (f := fun i => (r i : Rat) * v i) (b := m + k) fun j hj => (Sz.int (hr j (by omega)) h1).mul (hv j (by omega))
      have hb : i * (m + k + 1) ≤ n * (m + k + 1) := Nat.mul_le_mul_right _ (by omega)
      have e2 := F_law_plus_eq z2 (z1.mul (hv i hi)) (by omega)
      refine ⟨⟨([], 0, 0, 0), [.s x, .s y, .s (frD (sumN (i + 1) fun i => (r i : Rat) * v i)), .s (.int (i : Nat))]⟩, ?_, ⟨_, rfl⟩⟩
      rw [frD_int] at e1
      simp [e1, e2, ix_its hx hi, ix_its hy hi]
      rfl
  · obtain ⟨s3, rfl⟩ := hJ
    simp
end
end PX

namespace PX
open PySem L2 DL PG
/-! ### shapes that == can compare -/
def Sh (k : Nat) (d : D) : Prop := d.canLay0 = true ∧ d.depth ≤ k
theorem Sh.mono {k l : Nat} {d : D} (h : Sh k d) (hl : k ≤ l) : Sh l d := ⟨h.1, Nat.le_trans h.2 hl⟩
theorem Sh.shaped {k : Nat} {d : D} (h : Sh k d) (hk : k ≤ 64) : SeqAt.shaped d = true := by
  unfold SeqAt.shaped
  rw [h.1, decide_eq_true (Nat.le_trans h.2 hk)]
  rfl
theorem sh_int (i : Int) : Sh 0 (.int i) := ⟨rfl, Nat.le_refl 0⟩
theorem sh_all : ∀ {k : Nat} {l : List D}, (∀ d ∈ l, Sh k d) → PyData.canLayAll0 l = true ∧ PyData.depthAll l ≤ k
  | _, [], _ => ⟨rfl, Nat.zero_le _⟩
  | k, x :: l, h => by
    obtain ⟨h1, h2⟩ := h x (List.mem_cons_self ..)
    obtain ⟨h3, h4⟩ := sh_all fun d hd => h d (List.mem_cons_of_mem x hd)
    refine ⟨?_, ?_⟩
    · show (PyData.canLay0 x && PyData.canLayAll0 l) = true
      rw [h1, h3]
      rfl
    · show max (PyData.depth x) (PyData.depthAll l) ≤ k
      omega
theorem sh_list {k : Nat} {l : List D} (h : ∀ d ∈ l, Sh k d) : Sh (k + 1) (.list l) := by
  obtain ⟨h1, h2⟩ := sh_all h
  exact ⟨h1, Nat.succ_le_succ h2⟩
theorem sh_tuple {k : Nat} {l : List D} (h : ∀ d ∈ l, Sh k d) : Sh (k + 1) (.tuple l) := by
  obtain ⟨h1, h2⟩ := sh_all h
  exact ⟨h1, Nat.succ_le_succ h2⟩
theorem mem_vec {α : Type} {n : Nat} {f : Nat → α} {x : α} (h : x ∈ vecF n f) : ∃ i, i < n ∧ x = f i := by
  unfold vecF at h
  obtain ⟨i, h1, h2⟩ := List.mem_map.mp h
  exact ⟨i, List.mem_range.mp h1, h2.symm⟩
theorem sh_frD (q : Rat) : Sh 1 (frD q) := sh_tuple fun d hd => by
  simp only [List.mem_cons, List.not_mem_nil, or_false] at hd
  rcases hd with rfl | rfl
  · exact sh_int _
  · exact sh_int _
theorem d_eqSh {k l : Nat} {a b : D} (ha : Sh k a) (hb : Sh l b) (hk : k ≤ 64) (hl : l ≤ 64) : dEq a b = some (.bool (PyData.eqv a b)) := by
  unfold dEq
  rw [ha.shaped hk, hb.shaped hl]
  rfl
theorem d_neSh {k l : Nat} {a b : D} (ha : Sh k a) (hb : Sh l b) (hk : k ≤ 64) (hl : l ≤ 64) : dNe a b = some (.bool (!PyData.eqv a b)) := by
  unfold dNe
  rw [ha.shaped hk, hb.shaped hl]
  rfl
theorem eqv_nil {l : List D} : PyData.eqv (.list l) (.list []) = l.isEmpty := by
  cases l <;> simp [PyData.eqv, PyData.eqvAll]
theorem d_eqNil {k : Nat} {l : List D} (h : ∀ d ∈ l, Sh k d) (hk : k < 64) : dEq (.list l) (.list []) = some (.bool l.isEmpty) := by
  rw [d_eqSh (sh_list h) (sh_list (k := 0) fun d hd => by cases hd) hk (by decide), eqv_nil]
theorem d_neNil {k : Nat} {l : List D} (h : ∀ d ∈ l, Sh k d) (hk : k < 64) : dNe (.list l) (.list []) = some (.bool (!l.isEmpty)) := by
  rw [d_neSh (sh_list h) (sh_list (k := 0) fun d hd => by cases hd) hk (by decide), eqv_nil]
/-! ### tables -/
def tabD (n w : Nat) (T : Tab) : List D := vecF n fun i => vL w (T i)
def updT (T : Tab) (k : Nat) (r : Nat → Rat) : Tab := fun i => if i = k then r else T i
theorem tab_set {n w k : Nat} {T : Tab} {r : Nat → Rat} : (tabD n w T).set k (vL w r) = tabD n w (updT T k r) := by
  unfold tabD
  rw [vecF_set]
  refine vecF_congr fun i _ => ?_
  unfold updT
  by_cases h : i = k
  · rw [if_pos h, if_pos h]
  · rw [if_neg h, if_neg h]
@[simp] theorem tab_len {n w : Nat} {T : Tab} : (tabD n w T).length = n := by simp [tabD]
theorem tab_st {n w k : Nat} {T : Tab} {r : Nat → Rat} (h : k < n) : stO (.o (tabD n w T)) (k : Int) (vL w r) = some (.o (tabD n w (updT T k r))) := by
  unfold stO
  simp only [tab_len, ixN_nat h, tab_set]
theorem tab_ix {n w k : Nat} {T : Tab} (h : k < n) : L2.atI (tabD n w T) (k : Int) = some (vL w (T k)) := atI_vec h
theorem vL_ix {w k : Nat} {v : Nat → Rat} (h : k < w) : dIx (vL w v) (.int (k : Int)) = some (frD (v k)) := ix_its its_vL h
theorem swap_eq {T : Tab} {a p : Nat} : updT (updT T a (T p)) p (T a) = swapR T a p := rfl
theorem norm_eq {T : Tab} {a : Nat} : updT T a (fun j => T a j / T a a) = normR T a := by
  funext i j
  unfold updT normR
  by_cases h : i = a
  · rw [if_pos h, if_pos h]
  · rw [if_neg h, if_neg h]
def elimK (T : Tab) (a k : Nat) : Tab := fun i => if i < k ∧ i ≠ a then (fun j => T i j - T i a * T a j) else T i
theorem elimK_0 {T : Tab} {a : Nat} : elimK T a 0 = T := by
  funext i
  unfold elimK
  rw [if_neg (by omega)]
theorem elimK_n {n w a : Nat} {T : Tab} (ha : a < n) : tabD n w (elimK T a n) = tabD n w (elimR T a) := by
  unfold tabD
  refine vecF_congr fun i hi => ?_
  unfold elimK elimR
  by_cases h : i = a
  · subst h
    rw [if_neg (by omega)]
    simp
  · rw [if_pos ⟨hi, h⟩]
    simp [h]
theorem elimK_at {T : Tab} {a k : Nat} : elimK T a k a = T a := by
  unfold elimK
  rw [if_neg (by omega)]
theorem elimK_k {T : Tab} {a k : Nat} : elimK T a k k = T k := by
  unfold elimK
  rw [if_neg (by omega)]
theorem elimK_set {T : Tab} {a k : Nat} (h : k ≠ a) : updT (elimK T a k) k (fun j => T k j - T k a * T a j) = elimK T a (k + 1) := by
  funext i
  unfold updT elimK
  by_cases hi : i = k
  · subst hi
    rw [if_pos rfl, if_pos ⟨by omega, h⟩]
  · rw [if_neg hi]
    by_cases h2 : i < k ∧ i ≠ a
    · rw [if_pos h2, if_pos ⟨by omega, h2.2⟩]
    · rw [if_neg h2, if_neg (by omega)]
theorem elimK_skip {T : Tab} {a k : Nat} (h : k = a ∨ T k a = 0) : elimK T a k = elimK T a (k + 1) := by
  funext i
  unfold elimK
  by_cases hi : i = k
  · subst hi
    rw [if_neg (by omega)]
    by_cases h2 : i = a
    · rw [if_neg (by omega)]
    · rw [if_pos ⟨by omega, h2⟩]
      have h3 : T i a = 0 := by
        rcases h with h | h
        · exact absurd h h2
        · exact h
      funext j
      rw [h3]
      grind
  · by_cases h2 : i < k ∧ i ≠ a
    · rw [if_pos h2, if_pos ⟨by omega, h2.2⟩]
    · rw [if_neg h2, if_neg (by omega)]
/-- sizes through the pivots -/
def bd (b : Nat) : Nat → Nat
  | 0 => b
  | k + 1 => 4 * bd b k + 1
theorem bd_le {b : Nat} : ∀ {n k : Nat}, k ≤ n → bd b k ≤ bd b n
  | 0, k, h => by
    obtain rfl : k = 0 := by omega
    exact Nat.le_refl _
  | n + 1, k, h => by
    by_cases e : k = n + 1
    · subst e; exact Nat.le_refl _
    · have := bd_le (b := b) (n := n) (k := k) (by omega)
      show bd b k ≤ 4 * bd b n + 1
      omega
def TSz (n w b : Nat) (T : Tab) : Prop := ∀ i j, i < n → j < w → Sz b (T i j)
theorem swap_sz {n w b a p : Nat} {T : Tab} (ha : a < n) (hp : p < n) (h : TSz n w b T) : TSz n w b (swapR T a p) := fun i j hi hj => by
  unfold swapR
  by_cases h1 : i = p
  · simp only [h1, if_true]; exact h a j ha hj
  · by_cases h2 : i = a
    · simp only [h1, h2, if_false, if_true]
      split
      · exact h a j ha hj
      · exact h p j hp hj
    · simp only [h1, h2, if_false]; exact h i j hi hj
theorem frD_neg (q : Rat) : frD (-q) = .tuple [.int (-q.num), .int (q.den : Nat)] := rfl
end PX

namespace PX
open PySem L2 DL PG
/-- what is known of a table's sizes through the pivots -/
structure SzI (n w : Nat) (SI : Nat → Tab → Prop) (β : Nat → Nat) : Prop where
  sz : ∀ a T, SI a T → TSz n w (β a) T
  step : ∀ a p T, a < n → a ≤ p → p < n → T p a ≠ 0 → SI a T → SI (a + 1) (stepR T a p)
  small : ∀ a, a < n → 4 * β a + 1 < 134000000
/-- the state at a pivot -/
structure GJ (n w : Nat) (SI : Nat → Tab → Prop) (T0 : Tab) (a : Nat) (T : Tab) : Prop where
  u : UnitTo n a T
  k : ∀ z, Ker n w T z ↔ Ker n w T0 z
  s : SI a T
theorem norm_sz {n w b a : Nat} {T : Tab} (ha : a < n) (haw : a < w) (h0 : T a a ≠ 0) (h : TSz n w b T) : TSz n w (b + b) (normR T a) := fun i j hi hj => by
  unfold normR
  by_cases h1 : i = a
  · simp only [h1, if_true]
    exact (h a j ha hj).div (h a a ha haw) h0
  · simp only [h1, if_false]
    exact (h i j hi hj).mono (by omega)
theorem step_sz {n w b a p : Nat} {T : Tab} (ha : a < n) (hp : p < n) (haw : a < w) (h0 : T p a ≠ 0) (h : TSz n w b T) : TSz n w (4 * b + 1) (stepR T a p) := fun i j hi hj => by
  have hs := swap_sz ha hp h
  have h0' : swapR T a p a a ≠ 0 := by
    unfold swapR
    by_cases h : a = p
    · subst h; simpa using h0
    · simpa [h] using h0
  unfold stepR elimR
  by_cases h1 : i = a
  · simp only [h1, if_true]
    exact (norm_sz ha haw h0' hs a j ha hj).mono (by omega)
  · simp only [h1, if_false]
    have e1 : normR (swapR T a p) a i = swapR T a p i := by
      funext j
      unfold normR
      rw [if_neg h1]
    rw [e1]
    exact ((hs i j hi hj).sub ((hs i a hi haw).mul (norm_sz ha haw h0' hs a j ha hj))).mono (by omega)
theorem GJ.step {n w a p : Nat} {SI : Nat → Tab → Prop} {β : Nat → Nat} {T0 T : Tab} (I : SzI n w SI β) (G : GJ n w SI T0 a T) (ha : a < n) (hap : a ≤ p) (hp : p < n) (h0 : T p a ≠ 0) : GJ n w SI T0 (a + 1) (stepR T a p) :=
  ⟨step_unit ha hap hp h0 G.u, fun z => (step_ker ha hp h0).trans (G.k z), I.step a p T ha hap hp h0 G.s⟩
theorem szI_bd {n w b : Nat} (hw : n ≤ w) (hb : bd b n < 134000000) : SzI n w (fun a T => TSz n w (bd b a) T) (bd b) where
  sz := fun _ _ h => h
  step := fun a p T ha _ hp h0 h => step_sz ha hp (by omega) h0 h
  small := fun a ha => by
    have : bd b (a + 1) ≤ bd b n := bd_le (by omega)
    have e : bd b (a + 1) = 4 * bd b a + 1 := rfl
    omega
/-- where a pivot may stand -/
def spots (T : Tab) (n a : Nat) : List Nat := (List.range (n - a)).filter fun i => !decide ((T (a + i) a).num = 0)
theorem spots_nil {T : Tab} {n a : Nat} (h : spots T n a = []) : ∀ i, a ≤ i → i < n → T i a = 0 := fun i h1 h2 => by
  unfold spots at h
  have h3 := List.filter_eq_nil_iff.mp h (i - a) (List.mem_range.mpr (by omega))
  rw [show a + (i - a) = i by omega] at h3
  simp only [Bool.not_eq_true, Bool.not_eq_false', decide_eq_true_eq] at h3
  exact Rat.num_eq_zero.mp h3
theorem spots_cons {T : Tab} {n a k : Nat} {l : List Nat} (h : spots T n a = k :: l) : a + k < n ∧ T (a + k) a ≠ 0 := by
  have h1 : k ∈ spots T n a := by rw [h]; exact List.mem_cons_self ..
  unfold spots at h1
  obtain ⟨h2, h3⟩ := List.mem_filter.mp h1
  have h2' := List.mem_range.mp h2
  refine ⟨by omega, fun z => ?_⟩
  rw [z] at h3
  simp at h3
/-- what solved promises -/
def SolvedG (n m c : Nat) (R S : Tab) (d : D) : Prop :=
  (d = .none ∧ ∃ z : Nat → Rat, (∃ j, j < n ∧ z j ≠ 0) ∧ ∀ i, i < n → sumN n (fun j => R i j * z j) = 0) ∨
  ∃ X : Tab, d = .list (vecF m fun s => vL n (X s)) ∧ (∀ s, s < m → ∀ x : Nat → Rat, (∀ i, i < n → sumN n (fun j => R i j * x j) = S s i) ↔ ∀ i, i < n → x i = X s i) ∧ ∀ s i, s < m → i < n → Sz c (X s i)
theorem frD_ix0 (q : Rat) : dIx (frD q) (.int 0) = some (.int q.num) := by simp [frD]
theorem frD_ix1 (q : Rat) : dIx (frD q) (.int 1) = some (.int (q.den : Nat)) := by simp [frD]
theorem F_solved_gen {n m : Nat} {SI : Nat → Tab → Prop} {β : Nat → Nat} {rows sides : D} {r sd : Nat → D} {R S : Tab} (hr : Its rows n r) (hri : ∀ i, i < n → Its (r i) n fun j => frD (R i j)) (hs : Its sides m sd) (hsi : ∀ s, s < m → Its (sd s) n fun i => frD (S s i))
    (hn : n ≤ 1000) (hm : m ≤ 1000) (I : SzI n (n + m) SI β) (h00 : SI 0 (fun i j => if j < n then R i j else S (j - n) i)) : ∃ d, F_solved [rows, sides] = some d ∧ SolvedG n m (β n) R S d := by
  refine run_wp rfl ?_
  unfold g_solved
  simp [len_its hr, hr, vecF_enum, lst_its (show n ≤ 1000000 by omega)]
  rw [lcGo_vec (φ := fun i => vL (n + m) fun j => if j < n then R i j else S (j - n) i)]
  · simp [d_range (show n ≤ 1000000 by omega)]
    have hw : n ≤ n + m := Nat.le_add_right ..
    refine wp_thn (fun ρ => ∃ T s4 s5 s6 s7 s8, GJ n (n + m) SI (fun i j => if j < n then R i j else S (j - n) i) n T ∧ ρ = ⟨([], 0, 0, 0), [.s rows, .s sides, .s (.int n), .o (tabD n (n + m) T), s4, s5, s6, s7, s8, .no, .no, .no, .no]⟩) ?_ ?_
    · refine wp_for (fun a ρ => ∃ T s4 s5 s6 s7 s8, GJ n (n + m) SI (fun i j => if j < n then R i j else S (j - n) i) a T ∧ ρ = ⟨([], 0, 0, 0), [.s rows, .s sides, .s (.int n), .o (tabD n (n + m) T), s4, s5, s6, s7, s8, .no, .no, .no, .no]⟩) ?_ ?_ ?_
      · refine ⟨_, _, _, _, _, _, ⟨fun i j _ h => absurd h (Nat.not_lt_zero _), fun z => Iff.rfl, h00⟩, rfl⟩
      · rintro a ρ ha ⟨T, s4, s5, s6, s7, s8, G, rfl⟩
        have hba := I.small a ha
        simp [d_range2 (show n ≤ 1000000 by omega) (show a ≤ 1000000 by omega), lst_its (show n - a ≤ 1000000 by omega)]
        rw [lcGo_filter (φ := fun i => .int ((a + i : Nat) : Int)) (t := fun i => !decide ((T (a + i) a).num = 0))]
        · rw [show (List.range (n - a)).filter (fun i => !decide ((T (a + i) a).num = 0)) = spots T n a from rfl]
          simp [d_eqNil (k := 0) (l := (spots T n a).map fun (i : Nat) => (PyData.int ((a : Int) + (i : Int)) : D)) (fun d hd => by obtain ⟨i, _, rfl⟩ := List.mem_map.mp hd; exact sh_int _) (by decide)]
          cases hsp : spots T n a with
          | nil =>
            simp
            refine wp_some ?_
            obtain ⟨z, z1, z2, z3⟩ := no_pivot ha hw G.u (spots_nil hsp)
            exact .inl ⟨rfl, z, ⟨a, ha, z1⟩, ker_null z2 ((G.k z).mp z3)⟩
          | cons k l =>
            obtain ⟨hp, h0⟩ := spots_cons hsp
            have haw : a < n + m := by omega
            have hwl : n + m ≤ 1000000 := by omega
            obtain ⟨p, ep⟩ : ∃ p : Nat, p = a + k := ⟨_, rfl⟩
            have ep' : (a : Int) + (k : Int) = (p : Int) := by rw [ep]; rfl
            rw [← ep] at hp h0
            have hap : a ≤ p := by omega
            simp only [List.map_cons, ep', Int.natCast_add]
            generalize List.map (fun (i : Nat) => (PyData.int ((a : Int) + (i : Int)) : D)) l = tl
            simp [tab_ix hp, tab_ix ha, tab_st ha, tab_st hp, swap_eq]
            have G' := G.step I ha hap hp h0
            have hs1 := swap_sz ha hp (I.sz a T G.s)
            have h0' : swapR T a p a a ≠ 0 := by
              unfold swapR
              by_cases h : a = p
              · subst h; simpa using h0
              · simpa [h] using h0
            have e3 : stepR T a p = elimR (normR (swapR T a p) a) a := rfl
            rw [e3] at G'
            generalize swapR T a p = T1 at *
            simp [tab_ix ha, vL_ix haw, its_vL, lst_its hwl]
            rw [lcGo_vec (φ := fun j => frD (T1 a j / T1 a a))]
            · rw [show (vecF (n + m) fun j => frD (T1 a j / T1 a a)) = vecF (n + m) fun j => frD ((fun j => T1 a j / T1 a a) j) from rfl]
              simp only [bnd_some]
              rw [show (PyData.list (vecF (n + m) fun j => frD ((fun j => T1 a j / T1 a a) j)) : D) = vL (n + m) (fun j => T1 a j / T1 a a) from rfl]
              simp [tab_st ha, norm_eq, d_range (show n ≤ 1000000 by omega)]
              have hr2 : ∀ i, i ≠ a → normR T1 a i = T1 i := fun i hi => by
                funext j
                unfold normR
                rw [if_neg hi]
              have ha2 : ∀ j, j < n + m → Sz (β a + β a) (normR T1 a a j) := fun j hj => norm_sz ha haw h0' hs1 a j ha hj
              have hend : ∀ s7 s8, ∃ T, GJ n (n + m) SI (fun i j => if j < n then R i j else S (j - n) i) (a + 1) T ∧ ∃ x x_1 x_2 x_3 x_4, (⟨([], 0, 0, 0), [.s rows, .s sides, .s (.int n), .o (tabD n (n + m) (elimK (normR T1 a) a n)), .s (.int a), .s (.list (.int p :: tl)), .s (frD (T1 a a)), s7, s8, .no, .no, .no, .no]⟩ : Ev) = ⟨([], 0, 0, 0), [.s rows, .s sides, .s (.int n), .o (tabD n (n + m) T), x, x_1, x_2, x_3, x_4, .no, .no, .no, .no]⟩ := fun s7 s8 => by
                rw [elimK_n ha]
                exact ⟨_, G', _, _, _, _, _, rfl⟩
              generalize normR T1 a = T2 at *
              refine wp_for (fun k ρ => ∃ s7 s8, ρ = ⟨([], 0, 0, 0), [.s rows, .s sides, .s (.int n), .o (tabD n (n + m) (elimK T2 a k)), .s (.int a), .s (.list (.int p :: tl)), .s (frD (T1 a a)), s7, s8, .no, .no, .no, .no]⟩) ⟨s7, s8, by rw [elimK_0]⟩ ?_ ?_
              · rintro k ρ hk ⟨t7, t8, rfl⟩
                simp [tab_ix hk, elimK_k, vL_ix haw, frD_ix0]
                by_cases hka : k = a
                · simp [hka]
                  rw [show elimK T2 a a = elimK T2 a (a + 1) from elimK_skip (.inl rfl)]
                  exact wp_some ⟨_, _, rfl⟩
                · have hka' : ¬ ((k : Int) = (a : Int)) := by omega
                  have hz : ((T2 k a).num = 0) ↔ T2 k a = 0 := Rat.num_eq_zero
                  by_cases h2 : T2 k a = 0
                  · simp [hka', h2]
                    rw [show elimK T2 a k = elimK T2 a (k + 1) from elimK_skip (.inr h2)]
                    exact wp_some ⟨_, _, rfl⟩
                  · have h2' : ¬ (T2 k a).num = 0 := fun z => h2 (hz.mp z)
                    have hu : ∀ j, j < n + m → Sz (β a) (T2 k j) := fun j hj => by rw [hr2 k hka]; exact hs1 k j hk hj
                    have e := F_added_eq (its_vL (n := n + m) (v := T2 k)) (its_vL (v := T2 a)) hwl hu ha2 (hu a haw).neg (by omega)
                    have e2 : (vL (n + m) fun j => T2 k j + -T2 k a * T2 a j) = vL (n + m) fun j => T2 k j - T2 k a * T2 a j := by
                      congr 1
                      funext j
                      grind
                    rw [e2, frD_neg] at e
                    simp [hka', h2, h2', tab_ix hk, tab_ix ha, elimK_k, elimK_at, vL_ix haw, frD_ix0, frD_ix1, e, tab_st hk, elimK_set hka]
                    exact wp_some ⟨_, _, rfl⟩
              · rintro ρ ⟨t7, t8, rfl⟩
                exact hend t7 t8
            · intro j hj
              refine ⟨⟨([], 0, 0, 0), [.s rows, .s sides, .s (.int n), .o (tabD n (n + m) T1), .s (.int a), .s (.list (.int p :: tl)), .s (frD (T1 a a)), s7, s8, .no, .no, .s (frD (T1 a j)), .no]⟩, ?_, rfl, ?_⟩
              · simp [Ev.wipe, wipeS]
              · simp [F_over_eq (hs1 a j ha hj) (hs1 a a ha haw) (by omega) h0']
        · intro i hi
          refine ⟨⟨([], 0, 0, 0), [.s rows, .s sides, .s (.int n), .o (tabD n (n + m) T), .s (.int a), s5, s6, .s (.int ((a + i : Nat) : Int)), s8, .no, .no, .no, .no]⟩, ?_, ?_, ?_⟩
          · simp [Ev.wipe, wipeS]
          · have h1 : a + i < n := by omega
            have h2 : a < n + m := by omega
            have e := tab_ix (T := T) (w := n + m) h1
            rw [Int.natCast_add] at e
            simp [e, vL_ix h2, frD_ix0]
          · simp
      · rintro ρ h
        exact h
    · rintro ρ ⟨T, s4, s5, s6, s7, s8, G, rfl⟩
      simp [len_its hs, d_range (show m ≤ 1000000 by omega), lst_its (show m ≤ 1000000 by omega)]
      rw [lcGo_vec (φ := fun s => vL n fun i => T i (n + s))]
      · simp
        refine wp_some (.inr ⟨fun s i => T i (n + s), rfl, fun s hs' x => ?_, fun s i hs' hi => I.sz n T G.s i (n + s) hi (by omega)⟩)
        rw [← ker_sol (m := m) hs', ← G.k]
        exact unit_sol hs' G.u x
      · intro s hs'
        refine ⟨⟨([], 0, 0, 0), [.s rows, .s sides, .s (.int n), .o (tabD n (n + m) T), s4, s5, s6, .s (.int s), s8, .no, .no, .no, .no]⟩, ?_, rfl, ?_⟩
        · simp [Ev.wipe, wipeS]
        · simp
          rw [show tabD n (n + m) T = vecF n fun i => vL (n + m) (T i) from rfl, lst_its (show n ≤ 1000000 by omega)]
          simp
          rw [lcGo_vec (φ := fun i => frD (T i (n + s)))]
          · rfl
          · intro i hi
            have e : dIx (vL (n + m) (T i)) (.int ((n + s : Nat) : Int)) = some (frD (T i (n + s))) := vL_ix (by omega)
            rw [Int.natCast_add] at e
            refine ⟨⟨([], 0, 0, 0), [.s rows, .s sides, .s (.int n), .o (tabD n (n + m) T), s4, s5, s6, .s (.int s), s8, .no, .no, .no, .s (vL (n + m) (T i))]⟩, ?_, rfl, ?_⟩
            · simp [Ev.wipe, wipeS, tabD]
            · simp [e]
  · intro i hi
    refine ⟨⟨([], 0, 0, 0), [.s rows, .s sides, .s (.int n), .no, .s (.int i), .no, .no, .no, .no, .s (r i), .no, .no, .no]⟩, ?_, rfl, ?_⟩
    · simp [Ev.wipe, wipeS]
    · have h1 : dItems (r i) = _ := hri i hi
      simp [h1, hs, lst_its (show m ≤ 1000000 by omega)]
      rw [lcGo_vec (φ := fun s => frD (S s i))]
      · simp [vecF_append, lst_its (show n + m ≤ 1000000 by omega)]
        unfold vL
        congr 1
        refine vecF_congr fun j _ => ?_
        by_cases hj : j < n
        · simp only [if_pos hj]
        · simp only [if_neg hj]
      · intro s hs'
        refine ⟨⟨([], 0, 0, 0), [.s rows, .s sides, .s (.int n), .no, .s (.int i), .no, .no, .no, .no, .s (r i), .s (sd s), .no, .no]⟩, ?_, rfl, ?_⟩
        · simp [Ev.wipe, wipeS]
        · simp [ix_its (hsi s hs') hi]
abbrev SolvedP (n m b : Nat) (R S : Tab) (d : D) : Prop := SolvedG n m (bd b n) R S d
theorem F_solved_ok {n m b : Nat} {rows sides : D} {r sd : Nat → D} {R S : Tab} (hr : Its rows n r) (hri : ∀ i, i < n → Its (r i) n fun j => frD (R i j)) (hs : Its sides m sd) (hsi : ∀ s, s < m → Its (sd s) n fun i => frD (S s i))
    (hn : n ≤ 1000) (hm : m ≤ 1000) (hR : ∀ i j, i < n → j < n → Sz b (R i j)) (hS : ∀ s i, s < m → i < n → Sz b (S s i)) (hb : bd b n < 134000000) : ∃ d, F_solved [rows, sides] = some d ∧ SolvedP n m b R S d :=
  F_solved_gen hr hri hs hsi hn hm (szI_bd (Nat.le_add_right ..) hb) fun i j hi hj => by
    show Sz b (if j < n then R i j else S (j - n) i)
    by_cases hjn : j < n
    · rw [if_pos hjn]; exact hR i j hi hjn
    · rw [if_neg hjn]; exact hS (j - n) i (by omega) hi
end PX

namespace PX
open PySem L2 DL PG
/-! ### isinstance -/
section
variable {i : Int} {b : Bool} {xs : List D}
theorem kit_ii : kitB "int" "int" = some true := by decide +kernel
theorem kit_ib : kitB "int" "bool" = some false := by decide +kernel
theorem kit_bi : kitB "bool" "int" = some true := by decide +kernel
theorem kit_bb : kitB "bool" "bool" = some true := by decide +kernel
theorem kit_tt : kitB "tuple" "tuple" = some true := by decide +kernel
theorem kit_ll : kitB "list" "list" = some true := by decide +kernel
theorem kit_tl : kitB "tuple" "list" = some false := by decide +kernel
theorem kit_lt : kitB "list" "tuple" = some false := by decide +kernel
theorem kit_is : kitB "int" "str" = some false := by decide +kernel
theorem kit_bs : kitB "bool" "str" = some false := by decide +kernel
theorem kit_tb : kitB "tuple" "bool" = some false := by decide +kernel
@[simp] theorem isi_ii : dIsi "int" (.int i) = some (.bool true) := by simp [dIsi, tyN, kit_ii]
@[simp] theorem isi_ib : dIsi "bool" (.int i) = some (.bool false) := by simp [dIsi, tyN, kit_ib]
@[simp] theorem isi_bi : dIsi "int" (.bool b) = some (.bool true) := by simp [dIsi, tyN, kit_bi]
@[simp] theorem isi_bb : dIsi "bool" (.bool b) = some (.bool true) := by simp [dIsi, tyN, kit_bb]
@[simp] theorem isi_tt : dIsi "tuple" (.tuple xs) = some (.bool true) := by simp [dIsi, tyN, kit_tt]
@[simp] theorem isi_tl : dIsi "list" (.tuple xs) = some (.bool false) := by simp [dIsi, tyN, kit_tl]
@[simp] theorem isi_ll : dIsi "list" (.list xs) = some (.bool true) := by simp [dIsi, tyN, kit_ll]
@[simp] theorem isi_is : dIsi "str" (.int i) = some (.bool false) := by simp [dIsi, tyN, kit_is]
@[simp] theorem isi_bs : dIsi "str" (.bool b) = some (.bool false) := by simp [dIsi, tyN, kit_bs]
@[simp] theorem tl_t : dIsiTL (.tuple xs) = some (.bool true) := (rfl)
@[simp] theorem tl_l : dIsiTL (.list xs) = some (.bool true) := (rfl)
@[simp] theorem tl_i : dIsiTL (.int i) = some (.bool false) := (rfl)
@[simp] theorem tl_b : dIsiTL (.bool b) = some (.bool false) := (rfl)
end
theorem F_is_int_eq (i : Int) : F_is_int [.int i] = some (.bool true) := by
  refine run_of (w := ([], 0, 0, 0)) rfl ?_
  unfold g_is_int
  simp
theorem F_is_fraction_eq (q : Rat) : F_is_fraction [frD q] = some (.bool true) := by
  have h1 : Int.gcd q.num (q.den : Int) = 1 := q.reduced
  have h2 : (0 : Int) < (q.den : Int) := by have := q.den_pos; omega
  have hc := F_common_eq q.num (q.den : Int)
  rw [h1] at hc
  refine run_of (w := ([], 0, 0, 0)) rfl ?_
  unfold g_is_fraction
  simp [frD, F_is_int_eq, hc, q.den_pos]
theorem F_is_small_eq {i : Int} (h : i.natAbs ≤ 1000) : F_is_small [.int i] = some (.bool true) := by
  have h1 : -1000 ≤ i := by omega
  have h2 : i ≤ 1000 := by omega
  refine run_of (w := ([], 0, 0, 0)) rfl ?_
  unfold g_is_small
  simp [F_is_int_eq, h1, h2]
theorem toBls_vec {n : Nat} {t : Nat → Bool} : toBls (vecF n fun i => .bool (t i)) = some (vecF n t) := by
  unfold vecF
  generalize List.range n = l
  induction l with
  | nil => rfl
  | cons i l ih =>
    rw [List.map_cons, List.map_cons]
    unfold toBls
    rw [ih]
theorem all_vec {n : Nat} {t : Nat → Bool} (h : ∀ i, i < n → t i = true) : (vecF n t).all id = true := by
  rw [List.all_eq_true]
  intro x hx
  obtain ⟨i, hi, rfl⟩ := mem_vec hx
  exact h i hi
theorem d_all {n : Nat} {t : Nat → Bool} : dAll (.list (vecF n fun i => .bool (t i))) = some (.bool ((vecF n t).all id)) := by
  unfold dAll
  simp only [toBls_vec]
theorem d_any {n : Nat} {t : Nat → Bool} : dAny (.list (vecF n fun i => .bool (t i))) = some (.bool ((vecF n t).any id)) := by
  unfold dAny
  simp only [toBls_vec]
theorem d_allT {n : Nat} : dAll (.list (vecF n fun _ => .bool true)) = some (.bool true) := by
  rw [d_all (t := fun _ => true), all_vec fun _ _ => rfl]
theorem F_is_row_eq {n : Nat} {r : Nat → Int} (hn : n ≤ 1000) (h : ∀ i, i < n → (r i).natAbs ≤ 1000) : F_is_row [iT n r, .int (n : Nat)] = some (.bool true) := by
  refine run_of (w := ([], 0, 0, 0)) rfl ?_
  unfold g_is_row iT
  simp [lst_its (show n ≤ 1000000 by omega)]
  rw [lcGo_vec (φ := fun _ => .bool true)]
  · simp [d_allT]
  · intro i hi
    refine ⟨⟨([], 0, 0, 0), [.s (iT n r), .s (.int n), .s (.int (r i))]⟩, ?_, rfl, ?_⟩
    · simp [Ev.wipe, wipeS, iT]
    · simp [F_is_small_eq (h i hi)]
/-! ### tasks -/
structure Tk where
  n : Nat
  h : Nat
  M : Nat → Nat → Int
  c : Nat → Int
  d : Nat → Int
  A : Nat → Nat → Int
  b : Nat → Int
  e : Nat → Int
namespace Tk
def rowD (t : Tk) (i : Nat) : D := .tuple [iT t.n (t.A i), .int (t.b i), .int (t.e i)]
def sqD (t : Tk) : D := .tuple (vecF t.n fun i => iT t.n (t.M i))
def rowsD (t : Tk) : D := .tuple (vecF t.h t.rowD)
def dat (t : Tk) : D := .tuple [t.sqD, iT t.n t.c, iT t.n t.d, t.rowsD]
structure Ok (t : Tk) : Prop where
  n1 : 1 ≤ t.n
  n5 : t.n ≤ 5
  h8 : t.h ≤ 8
  M : ∀ i j, i < t.n → j < t.n → (t.M i j).natAbs ≤ 1000
  c : ∀ i, i < t.n → (t.c i).natAbs ≤ 4000
  d : ∀ i, i < t.n → (t.d i).natAbs ≤ 1000
  A : ∀ i j, i < t.h → j < t.n → (t.A i j).natAbs ≤ 1000
  b : ∀ i, i < t.h → (t.b i).natAbs ≤ 1000
  e : ∀ i, i < t.h → (t.e i).natAbs ≤ 1000
  sym : ∀ i j, i < t.n → j < t.n → t.M i j = t.M j i
  pd : ∀ z : Nat → Rat, (∃ i, i < t.n ∧ z i ≠ 0) → 0 < sumN t.n fun i => z i * sumN t.n fun j => (t.M i j : Rat) * z j
/-- what is worked out of a task -/
def cost (t : Tk) (s : Rat) (j : Nat) : Rat := (t.c j : Rat) + (t.d j : Rat) * s
def right (t : Tk) (s : Rat) (i : Nat) : Rat := (t.b i : Rat) + (t.e i : Rat) * s
def Mx (t : Tk) (x : Nat → Rat) (i : Nat) : Rat := sumN t.n fun j => (t.M i j : Rat) * x j
def slope (t : Tk) (s : Rat) (x : Nat → Rat) (j : Nat) : Rat := t.Mx x j + t.cost s j
def Ax (t : Tk) (x : Nat → Rat) (i : Nat) : Rat := sumN t.n fun j => (t.A i j : Rat) * x j
def gap (t : Tk) (s : Rat) (x : Nat → Rat) (i : Nat) : Rat := t.Ax x i - t.right s i
def worth (t : Tk) (s : Rat) (x : Nat → Rat) : Rat := sumN t.n fun j => x j * (t.Mx x j / 2 + t.cost s j)
def Aw (t : Tk) (w : Nat → Rat) (j : Nat) : Rat := sumN t.h fun i => (t.A i j : Rat) * w i
def lim (t : Tk) (s : Rat) (w : Nat → Rat) : Rat := sumN t.h fun i => t.right s i * w i
end Tk
theorem pow10 {i : Int} (h : i.natAbs ≤ 1000) : i.natAbs < 2 ^ 10 := by
  have : (2 : Nat) ^ 10 = 1024 := rfl
  omega
theorem sz12 {i : Int} (h : i.natAbs ≤ 4000) : Sz 12 (i : Rat) := Sz.int (Nat.lt_of_le_of_lt h (by decide)) (by decide)
theorem sz10 {i : Int} (h : i.natAbs ≤ 1000) : Sz 10 (i : Rat) := Sz.int (pow10 h) (by decide)
/-- inner, of at most eight things -/
theorem F_inner8 {n k : Nat} {x y : D} {r : Nat → Int} {v : Nat → Rat} (hx : Its x n fun i => .int (r i)) (hy : Its y n fun i => frD (v i)) (hn : n ≤ 8) (hr : ∀ i, i < n → (r i).natAbs ≤ 1000) (hv : ∀ i, i < n → Sz k (v i)) (h : 9 * k < 133000000) :
    F_inner [x, y] = some (frD (sumN n fun i => (r i : Rat) * v i)) ∧ Sz (8 * k + 100) (sumN n fun i => (r i : Rat) * v i) := by
  have hb : n * (10 + k + 1) ≤ 8 * (10 + k + 1) := Nat.mul_le_mul_right _ hn
  exact ⟨F_inner_eq hx hy (fun i hi => pow10 (hr i hi)) (by decide) hv (by omega), (sz_sum fun i hi => (sz10 (hr i hi)).mul (hv i hi)).mono (by omega)⟩
theorem F_law_inner8 {n k : Nat} {x y : D} {r : Nat → Int} {v : Nat → Rat} (hx : Its x n fun i => .int (r i)) (hy : Its y n fun i => frD (v i)) (hn : n ≤ 8) (hr : ∀ i, i < n → (r i).natAbs ≤ 1000) (hv : ∀ i, i < n → Sz k (v i)) (h : 9 * k < 133000000) :
    F_law_inner [x, y] = some (frD (sumN n fun i => (r i : Rat) * v i)) := by
  have hb : n * (10 + k + 1) ≤ 8 * (10 + k + 1) := Nat.mul_le_mul_right _ hn
  exact F_law_inner_eq hx hy (by omega) (fun i hi => pow10 (hr i hi)) (by decide) hv (by omega)
section
variable {t : Tk} {s : Rat} {p q : Nat} {v : Nat → Rat} {x : D}
/-- what a task that a door lets in has besides -/
structure Tk.Sm (t : Tk) : Prop where
  n4 : t.n ≤ 4
  c : ∀ i, i < t.n → (t.c i).natAbs ≤ 1000
theorem lin_size {a b : Int} (ha : a.natAbs ≤ 4000) (hb : b.natAbs ≤ 1000) (hs : Sz p s) : (a * (s.den : Int) + b * s.num).natAbs < 2 ^ (10 + (p + 3)) ∧ (a : Rat) + (b : Rat) * s = Rat.divInt (a * (s.den : Int) + b * s.num) (s.den : Int) := by
  constructor
  · have h1 := Int.natAbs_add_le (a * (s.den : Int)) (b * s.num)
    rw [Int.natAbs_mul, Int.natAbs_mul, Int.natAbs_natCast] at h1
    have h2 : a.natAbs * s.den ≤ 4000 * 2 ^ p := Nat.mul_le_mul ha (Nat.le_of_lt hs.2)
    have h3 : b.natAbs * s.num.natAbs ≤ 1000 * 2 ^ p := Nat.mul_le_mul hb (Nat.le_of_lt hs.1)
    have h4 : 2 ^ (10 + (p + 3)) = 8192 * 2 ^ p := by rw [show 10 + (p + 3) = 13 + p by omega, Nat.pow_add]
    have h5 : 0 < 2 ^ p := Nat.pos_of_ne_zero (by simp)
    omega
  · rw [Rat.divInt_eq_div]
    simp only [Rat.intCast_add, Rat.intCast_mul, Rat.intCast_natCast]
    have h1 : (s.den : Rat) ≠ 0 := by
      intro z
      exact s.den_nz (by exact_mod_cast z)
    have h2 : s * (s.den : Rat) = s.num := by
      have h3 := Rat.num_divInt_den s
      rw [Rat.divInt_eq_div] at h3
      have h4 : ((s.den : Int) : Rat) = (s.den : Rat) := Rat.intCast_natCast s.den
      rw [h4] at h3
      generalize (s.den : Rat) = y at *
      generalize (s.num : Rat) = z at *
      rw [← h3]
      exact Rat.div_mul_cancel h1
    rw [← h2]
    generalize (s.den : Rat) = y at *
    generalize (a : Rat) = a at *
    generalize (b : Rat) = b at *
    grind
theorem Tk.cost_sz (ok : t.Ok) (hs : Sz p s) {j : Nat} (hj : j < t.n) : Sz (p + 21) (t.cost s j) := by
  obtain ⟨h1, h2⟩ := lin_size (ok.c j hj) (ok.d j hj) hs
  unfold Tk.cost
  rw [h2]
  refine (Sz.divInt h1 ?_ ?_).mono (by omega)
  · rw [Int.natAbs_natCast]
    exact Nat.lt_of_lt_of_le hs.2 (Nat.pow_le_pow_right (by decide) (by omega))
  · have := s.den_nz
    omega
theorem Tk.right_sz (ok : t.Ok) (hs : Sz p s) {j : Nat} (hj : j < t.h) : Sz (p + 21) (t.right s j) := ((sz10 (ok.b j hj)).add ((sz10 (ok.e j hj)).mul hs)).mono (by omega)
theorem F_costs_at_eq (ok : t.Ok) (hs : Sz p s) (hp : p ≤ 1000000) : F_costs_at [t.dat, frD s] = some (vL t.n (t.cost s)) := by
  have hn := ok.n5
  refine run_of (w := ([], 0, 0, 0)) rfl ?_
  unfold g_costs_at Tk.dat
  simp [zp2_its (its_iT (v := t.c)) (its_iT (v := t.d)), lst_its (show t.n ≤ 1000000 by omega)]
  rw [lcGo_vec (φ := fun i => frD (t.cost s i))]
  · rfl
  · intro i hi
    refine ⟨⟨([], 0, 0, 0), [.s t.dat, .s (frD s), .s (.int (t.c i)), .s (.int (t.d i))]⟩, ?_, rfl, ?_⟩
    · simp [Ev.wipe, wipeS, Tk.dat]
    · have e1 := F_times_eq (sz10 (ok.d i hi)) hs (by omega)
      have e2 := F_plus_eq (sz12 (ok.c i hi)) ((sz10 (ok.d i hi)).mul hs) (by omega)
      rw [frD_int] at e1 e2
      simp [e1, e2, Tk.cost]
theorem F_rights_at_eq (ok : t.Ok) (hs : Sz p s) (hp : p ≤ 1000000) : F_rights_at [t.dat, frD s] = some (vL t.h (t.right s)) := by
  have hn := ok.h8
  refine run_of (w := ([], 0, 0, 0)) rfl ?_
  unfold g_rights_at Tk.dat Tk.rowsD
  simp [lst_its (show t.h ≤ 1000000 by omega)]
  rw [lcGo_vec (φ := fun i => frD (t.right s i))]
  · rfl
  · intro i hi
    refine ⟨⟨([], 0, 0, 0), [.s t.dat, .s (frD s), .s (t.rowD i)]⟩, ?_, rfl, ?_⟩
    · simp [Ev.wipe, wipeS, Tk.dat, Tk.rowsD]
    · have e1 := F_times_eq (sz10 (ok.e i hi)) hs (by omega)
      have e2 := F_plus_eq (sz10 (ok.b i hi)) ((sz10 (ok.e i hi)).mul hs) (by omega)
      rw [frD_int] at e1 e2
      simp [e1, e2, Tk.right, Tk.rowD]
theorem Tk.Mx_sz (ok : t.Ok) (hv : ∀ i, i < t.n → Sz q (v i)) {i : Nat} (hi : i < t.n) : Sz (8 * q + 100) (t.Mx v i) := by
  have hb : t.n * (10 + q + 1) ≤ 8 * (10 + q + 1) := Nat.mul_le_mul_right _ (by have := ok.n5; omega)
  exact (sz_sum fun j hj => (sz10 (ok.M i j hi hj)).mul (hv j hj)).mono (by omega)
theorem Tk.Ax_sz (ok : t.Ok) (hv : ∀ i, i < t.n → Sz q (v i)) {i : Nat} (hi : i < t.h) : Sz (8 * q + 100) (t.Ax v i) := by
  have hb : t.n * (10 + q + 1) ≤ 8 * (10 + q + 1) := Nat.mul_le_mul_right _ (by have := ok.n5; omega)
  exact (sz_sum fun j hj => (sz10 (ok.A i j hi hj)).mul (hv j hj)).mono (by omega)
theorem F_slope_of_eq (ok : t.Ok) (hs : Sz p s) (hp : p ≤ 1000000) (hx : Its x t.n fun i => frD (v i)) (hv : ∀ i, i < t.n → Sz q (v i)) (hq : q ≤ 1000000) : F_slope_of [t.dat, frD s, x] = some (vL t.n (t.slope s v)) := by
  have hn := ok.n5
  have hc := F_costs_at_eq ok hs hp
  have ha := F_added_eq (c := 1) (its_vL (n := t.n) (v := t.Mx v)) (its_vL (v := t.cost s)) (by omega) (fun i hi => Tk.Mx_sz ok hv hi) (fun i hi => Tk.cost_sz ok hs hi) (l := 1) ⟨by decide, by decide⟩ (by omega)
  rw [frD_1] at ha
  have e : (vL t.n fun i => t.Mx v i + 1 * t.cost s i) = vL t.n (t.slope s v) := by
    congr 1
    funext i
    rw [Rat.one_mul]
    rfl
  rw [e] at ha
  refine run_of (w := ([], 0, 0, 0)) rfl ?_
  unfold g_slope_of
  simp [hc]
  simp [Tk.dat, Tk.sqD, lst_its (show t.n ≤ 1000000 by omega)]
  rw [lcGo_vec (φ := fun i => frD (t.Mx v i))]
  · simp
    rw [show (PyData.list (vecF t.n fun i => frD (t.Mx v i)) : D) = vL t.n (t.Mx v) from rfl]
    have hc' := hc
    unfold Tk.dat Tk.sqD at hc'
    simp [hc', ha]
  · intro i hi
    refine ⟨⟨([], 0, 0, 0), [.s t.dat, .s (frD s), .s x, .s (iT t.n (t.M i))]⟩, ?_, rfl, ?_⟩
    · simp [Ev.wipe, wipeS, Tk.dat, Tk.sqD]
    · obtain ⟨h1, _⟩ := F_inner8 (its_iT (v := t.M i)) hx (by omega) (fun j hj => ok.M i j hi hj) hv (by omega)
      simp [h1]
      rfl
end
end PX

namespace PX
open PySem L2 DL PG
section
variable {t : Tk} {s : Rat} {p q : Nat} {v w : Nat → Rat} {x y : D}
@[simp] theorem dat0 : dIx t.dat (.int 0) = some t.sqD := by simp [Tk.dat]
@[simp] theorem dat1 : dIx t.dat (.int 1) = some (iT t.n t.c) := by simp [Tk.dat]
@[simp] theorem dat2 : dIx t.dat (.int 2) = some (iT t.n t.d) := by simp [Tk.dat]
@[simp] theorem dat3 : dIx t.dat (.int 3) = some t.rowsD := by simp [Tk.dat]
@[simp] theorem row0 {i : Nat} : dIx (t.rowD i) (.int 0) = some (iT t.n (t.A i)) := by simp [Tk.rowD]
@[simp] theorem row1 {i : Nat} : dIx (t.rowD i) (.int 1) = some (.int (t.b i)) := by simp [Tk.rowD]
@[simp] theorem row2 {i : Nat} : dIx (t.rowD i) (.int 2) = some (.int (t.e i)) := by simp [Tk.rowD]
theorem its_sq : Its t.sqD t.n fun i => iT t.n (t.M i) := rfl
theorem its_rows : Its t.rowsD t.h t.rowD := rfl
@[simp] theorem it_sq : dItems t.sqD = some (vecF t.n fun i => iT t.n (t.M i)) := (rfl)
@[simp] theorem it_rows : dItems t.rowsD = some (vecF t.h t.rowD) := (rfl)
@[simp] theorem it_iT {n : Nat} {r : Nat → Int} : dItems (iT n r) = some (vecF n fun i => .int (r i)) := (rfl)
@[simp] theorem it_iL {n : Nat} {r : Nat → Int} : dItems (iL n r) = some (vecF n fun i => .int (r i)) := (rfl)
@[simp] theorem it_vL {n : Nat} {r : Nat → Rat} : dItems (vL n r) = some (vecF n fun i => frD (r i)) := (rfl)
@[simp] theorem it_vT {n : Nat} {r : Nat → Rat} : dItems (vT n r) = some (vecF n fun i => frD (r i)) := (rfl)
@[simp] theorem len_sq : dLen t.sqD = some (.int (t.n : Nat)) := len_its its_sq
@[simp] theorem len_rows : dLen t.rowsD = some (.int (t.h : Nat)) := len_its its_rows
@[simp] theorem len_iT {n : Nat} {r : Nat → Int} : dLen (iT n r) = some (.int (n : Nat)) := len_its its_iT
@[simp] theorem len_vL {n : Nat} {r : Nat → Rat} : dLen (vL n r) = some (.int (n : Nat)) := len_its its_vL
@[simp] theorem len_vT {n : Nat} {r : Nat → Rat} : dLen (vT n r) = some (.int (n : Nat)) := len_its its_vT
@[simp] theorem fr_0 {a : Rat} : dIx (frD a) (.int 0) = some (.int a.num) := frD_ix0 a
@[simp] theorem fr_1 {a : Rat} : dIx (frD a) (.int 1) = some (.int (a.den : Nat)) := frD_ix1 a
@[simp] theorem numlt {a : Rat} : a.num < 0 ↔ a < 0 := by
  have := (Rat.num_nonneg (q := a))
  rw [← Rat.not_le, ← this]
  omega
@[simp] theorem numgt {a : Rat} : 0 < a.num ↔ 0 < a := by
  have h1 := (Rat.num_nonneg (q := a))
  have h2 := (Rat.num_eq_zero (q := a))
  constructor
  · intro h
    have h3 : 0 ≤ a := h1.mp (by omega)
    have h4 : a ≠ 0 := fun z => by have := h2.mpr z; omega
    grind
  · intro h
    have h3 : 0 ≤ a.num := h1.mpr (by grind)
    have h4 : a.num ≠ 0 := fun z => by have := h2.mp z; grind
    omega
def C2 : Rat := 2
theorem sz2 : Sz 2 2 := ⟨by decide, by decide⟩
theorem frD_2 : frD 2 = .tuple [.int 2, .int 1] := rfl
theorem two_ne : (2 : Rat) ≠ 0 := by decide
theorem F_worth_of_eq (ok : t.Ok) (hs : Sz p s) (hp : p ≤ 1000000) (hx : Its x t.n fun i => frD (v i)) (hxs : slL (.s x) = some x) (hv : ∀ i, i < t.n → Sz q (v i)) (hq : q ≤ 1000000) :
    F_worth_of [t.dat, frD s, x] = some (frD (t.worth s v)) := by
  have hn := ok.n5
  have hc := F_costs_at_eq ok hs hp
  refine run_of (w := ([], 0, 0, 0)) rfl ?_
  unfold g_worth_of
  simp [hc, zp3_its hx its_sq (its_vL (v := t.cost s))]
  refine thn_for (fun i ρ => ∃ s4 s5 s6, ρ = ⟨([], 0, 0, 0), [.s t.dat, .s (frD s), .s x, .s (frD (sumN i fun j => v j * (t.Mx v j / 2 + t.cost s j))), s4, s5, s6]⟩) ⟨_, _, _, rfl⟩ (fun i ρ hi hJ => ?_) (fun ρ hJ => ?_)
  · obtain ⟨s4, s5, s6, rfl⟩ := hJ
    obtain ⟨h1, _⟩ := F_inner8 (its_iT (v := t.M i)) hx (by omega) (fun j hj => ok.M i j hi hj) hv (by omega)
    have z1 : Sz (8 * q + 100) (t.Mx v i) := Tk.Mx_sz ok hv hi
    have z2 := z1.div sz2 two_ne
    have z3 : ∀ j, j < t.n → Sz (9 * q + p + 125) (v j * (t.Mx v j / 2 + t.cost s j)) := fun j hj => ((hv j hj).mul (((Tk.Mx_sz ok hv hj).div sz2 two_ne).add (Tk.cost_sz ok hs hj))).mono (by omega)
    have z4 := sz_sum (n := i) fun j hj => z3 j (by omega)
    have hb : i * (9 * q + p + 125 + 1) ≤ 4 * (9 * q + p + 125 + 1) := Nat.mul_le_mul_right _ (by omega)
    have e1 := F_over_eq z1 sz2 (by omega) two_ne
    have e2 := F_plus_eq z2 (Tk.cost_sz ok hs hi) (by omega)
    have e3 := F_times_eq (hv i hi) (z2.add (Tk.cost_sz ok hs hi)) (by omega)
    have e4 := F_plus_eq z4 (z3 i hi) (by omega)
    rw [frD_2] at e1
    rw [show (sumN t.n fun j => (t.M i j : Rat) * v j) = t.Mx v i from rfl] at h1
    refine ⟨_, ?_, ⟨.s (frD (v i)), .s (iT t.n (t.M i)), .s (frD (t.cost s i)), rfl⟩⟩
    simp [h1, e1, e2, e3, e4]
    rfl
  · obtain ⟨s4, s5, s6, rfl⟩ := hJ
    simp
    rfl
theorem Tk.gap_sz (ok : t.Ok) (hs : Sz p s) (hv : ∀ i, i < t.n → Sz q (v i)) {i : Nat} (hi : i < t.h) : Sz (8 * q + p + 122) (t.gap s v i) := ((Tk.Ax_sz ok hv hi).sub (Tk.right_sz ok hs hi)).mono (by omega)
theorem F_gaps_of_eq (ok : t.Ok) (hs : Sz p s) (hp : p ≤ 1000000) (hx : Its x t.n fun i => frD (v i)) (hv : ∀ i, i < t.n → Sz q (v i)) (hq : q ≤ 10000000) : F_gaps_of [t.dat, frD s, x] = some (vL t.h (t.gap s v)) := by
  have hn := ok.n5
  have hh := ok.h8
  have hc := F_rights_at_eq ok hs hp
  refine run_of (w := ([], 0, 0, 0)) rfl ?_
  unfold g_gaps_of
  simp [hc, zp2_its its_rows (its_vL (v := t.right s)), lst_its (show t.h ≤ 1000000 by omega)]
  rw [lcGo_vec (φ := fun i => frD (t.gap s v i))]
  · rfl
  · intro i hi
    refine ⟨⟨([], 0, 0, 0), [.s t.dat, .s (frD s), .s x, .s (t.rowD i), .s (frD (t.right s i))]⟩, ?_, rfl, ?_⟩
    · simp [Ev.wipe, wipeS]
    · obtain ⟨h1, _⟩ := F_inner8 (its_iT (v := t.A i)) hx (by omega) (fun j hj => ok.A i j hi hj) hv (by omega)
      rw [show (sumN t.n fun j => (t.A i j : Rat) * v j) = t.Ax v i from rfl] at h1
      have e := F_less_eq (Tk.Ax_sz ok hv hi) (Tk.right_sz ok hs hi) (by omega)
      simp [h1, e]
      rfl
theorem F_keeps_eq (ok : t.Ok) (hs : Sz p s) (hp : p ≤ 1000000) (hx : Its x t.n fun i => frD (v i)) (hv : ∀ i, i < t.n → Sz q (v i)) (hq : q ≤ 1000000) :
    ∃ β, F_keeps [t.dat, frD s, x] = some (PyData.bool β) ∧ (β = true ↔ ∀ i, i < t.h → 0 ≤ t.gap s v i) := by
  have hh := ok.h8
  have hg := F_gaps_of_eq ok hs hp hx hv (by omega)
  refine ⟨(vecF t.h fun i => decide (0 ≤ t.gap s v i)).all id, ?_, ?_⟩
  · refine run_of (w := ([], 0, 0, 0)) rfl ?_
    unfold g_keeps
    simp [hg, lst_its (show t.h ≤ 1000000 by omega)]
    rw [lcGo_vec (φ := fun i => .bool (decide (0 ≤ t.gap s v i)))]
    · simp [d_all]
    · intro i hi
      refine ⟨⟨([], 0, 0, 0), [.s t.dat, .s (frD s), .s x, .s (frD (t.gap s v i))]⟩, ?_, rfl, ?_⟩
      · simp [Ev.wipe, wipeS]
      · simp
  · rw [List.all_eq_true]
    constructor
    · intro h i hi
      have := h (decide (0 ≤ t.gap s v i)) (List.mem_map.mpr ⟨i, List.mem_range.mpr hi, rfl⟩)
      simpa using this
    · intro h b hb
      obtain ⟨i, hi, rfl⟩ := mem_vec hb
      simpa using h i hi
theorem Tk.Aw_sz (ok : t.Ok) (hw : ∀ i, i < t.h → Sz q (w i)) {m j : Nat} (hm : m ≤ t.h) (hj : j < t.n) : Sz (8 * q + 100) (sumN m fun i => (t.A i j : Rat) * w i) := by
  have hb : m * (10 + q + 1) ≤ 8 * (10 + q + 1) := Nat.mul_le_mul_right _ (by have := ok.h8; omega)
  exact (sz_sum fun i hi => (sz10 (ok.A i j (by omega) hj)).mul (hw i (by omega))).mono (by omega)
theorem flat_rep {n : Nat} {a : D} : (List.replicate n [a]).flatten = vecF n fun _ => a := by
  refine vecF_ext (by simp) fun i hi => ?_
  rw [List.flatten_replicate_singleton, List.getElem?_replicate, if_pos hi]
theorem F_sum_of_rows_eq (ok : t.Ok) (hy : Its y t.h fun i => frD (w i)) (hw : ∀ i, i < t.h → Sz q (w i)) (hq : q ≤ 1000000) : F_sum_of_rows [t.dat, y] = some (vL t.n (t.Aw w)) := by
  have hn := ok.n5
  have hh := ok.h8
  refine run_of (w := ([], 0, 0, 0)) rfl ?_
  unfold g_sum_of_rows
  have hr : dRep (.list [.tuple [.int 0, .int 1]]) (.int (t.n : Int)) = some (vecF t.n fun _ => .tuple [.int 0, .int 1]) := by
    unfold dRep
    simp only
    rw [if_pos ⟨by omega, by omega, by simp⟩, Int.toNat_natCast, flat_rep]
  simp [hr, zp2_its its_rows hy]
  refine thn_for (fun i ρ => ∃ s3 s4, ρ = ⟨([], 0, 0, 0), [.s t.dat, .s y, .s (vL t.n fun j => sumN i fun k => (t.A k j : Rat) * w k), s3, s4, .no]⟩) ⟨_, _, rfl⟩ (fun i ρ hi hJ => ?_) (fun ρ hJ => ?_)
  · obtain ⟨s3, s4, rfl⟩ := hJ
    have e := F_added_eq (c := w i) (its_vL (n := t.n) (v := fun j => sumN i fun k => (t.A k j : Rat) * w k)) (its_vL (n := t.n) (v := fun j => (t.A i j : Rat))) (by omega) (fun j hj => Tk.Aw_sz ok hw (by omega) hj) (fun j hj => sz10 (ok.A i j hi hj)) (hw i hi) (by omega)
    have e2 : (vL t.n fun j => (sumN i fun k => (t.A k j : Rat) * w k) + w i * (t.A i j : Rat)) = vL t.n fun j => sumN (i + 1) fun k => (t.A k j : Rat) * w k := by
      congr 1
      funext j
      rw [Rat.mul_comm]
      rfl
    rw [e2] at e
    refine ⟨_, ?_, ⟨.s (t.rowD i), .s (frD (w i)), rfl⟩⟩
    simp [lst_its (show t.n ≤ 1000000 by omega)]
    rw [lcGo_vec (φ := fun j => frD (t.A i j : Rat))]
    · simp
      rw [show (PyData.list (vecF t.n fun j => frD (t.A i j : Rat)) : D) = vL t.n fun j => (t.A i j : Rat) from rfl]
      simp [e]
    · intro j hj
      refine ⟨⟨([], 0, 0, 0), [.s t.dat, .s y, .s (vL t.n fun j => sumN i fun k => (t.A k j : Rat) * w k), .s (t.rowD i), .s (frD (w i)), .s (.int (t.A i j))]⟩, ?_, rfl, ?_⟩
      · simp [Ev.wipe, wipeS]
      · simp
        rfl
  · obtain ⟨s3, s4, rfl⟩ := hJ
    simp
    rfl
theorem eqvAll_vec {n : Nat} {f g : Nat → D} : PyData.eqvAll (vecF n f) (vecF n g) = true ↔ ∀ i, i < n → PyData.eqv (f i) (g i) = true := by
  unfold vecF
  have key : ∀ l : List Nat, PyData.eqvAll (l.map f) (l.map g) = true ↔ ∀ i ∈ l, PyData.eqv (f i) (g i) = true := by
    intro l
    induction l with
    | nil => simp [PyData.eqvAll]
    | cons i l ih => simp [PyData.eqvAll, ih]
  rw [key]
  constructor
  · intro h i hi
    exact h i (List.mem_range.mpr hi)
  · intro h i hi
    exact h i (List.mem_range.mp hi)
theorem eqv_frD {a b : Rat} : PyData.eqv (frD a) (frD b) = true ↔ a = b := by
  unfold frD
  simp only [PyData.eqv, PyData.eqvAll, Bool.and_eq_true, beq_iff_eq, and_true]
  constructor
  · rintro ⟨h1, h2⟩
    exact Rat.ext h1 (by omega)
  · rintro rfl
    exact ⟨rfl, rfl⟩
theorem eqv_vL {n : Nat} {u v : Nat → Rat} : PyData.eqv (vL n u) (vL n v) = true ↔ ∀ i, i < n → u i = v i := by
  unfold vL
  rw [PyData.eqv, eqvAll_vec]
  exact ⟨fun h i hi => eqv_frD.mp (h i hi), fun h i hi => eqv_frD.mpr (h i hi)⟩
theorem sh_vL {n : Nat} {u : Nat → Rat} : Sh 2 (vL n u) := sh_list fun d hd => by
  obtain ⟨i, _, rfl⟩ := mem_vec hd
  exact sh_frD _
/-- a plan and weights that show each other -/
def Tk.FitAt (t : Tk) (s : Rat) (v w : Nat → Rat) (i : Nat) : Prop := 0 ≤ t.gap s v i ∧ 0 ≤ w i ∧ ¬ (0 < w i ∧ 0 < t.gap s v i)
def Tk.Fit (t : Tk) (s : Rat) (v w : Nat → Rat) (n : Nat) : Prop := ∀ i, i < n → t.FitAt s v w i
def Tk.Shows (t : Tk) (s : Rat) (v w : Nat → Rat) : Prop := t.Fit s v w t.h ∧ ∀ j, j < t.n → t.slope s v j = t.Aw w j
theorem Tk.Fit.succ {i : Nat} (h : t.Fit s v w i) (h1 : t.FitAt s v w i) : t.Fit s v w (i + 1) := fun k hk => by
  by_cases e : k = i
  · subst e; exact h1
  · exact h k (by omega)
/-- d tells whether P -/
def Tells (P : Prop) (d : D) : Prop := ∃ β, d = .bool β ∧ (β = true ↔ P)
theorem tells_t {P : Prop} (h : P) : Tells P (.bool true) := ⟨true, rfl, ⟨fun _ => h, fun _ => rfl⟩⟩
theorem tells_f {P : Prop} (h : ¬ P) : Tells P (.bool false) := ⟨false, rfl, ⟨fun z => (by cases z), fun z => (h z).elim⟩⟩
/-- an outcome that returns a thing of which P holds -/
def RetP (P : D → Prop) : Oc → Prop
  | .ret d _ => P d
  | .nx _ => P .none
  | _ => False
theorem run_ret {g : MS} {n N : Nat} {ds : List D} {P : D → Prop} (hl : ds.length = n) (h : wp (g ⟨([], 0, 0, 0), ds.map Sl.s ++ List.replicate (N - n) .no⟩) (RetP P)) : ∃ d, runP g n N ds = some d ∧ P d := by
  obtain ⟨oc, e, h⟩ := h
  exact run_wp hl ⟨oc, e, by cases oc <;> exact h⟩
theorem F_shows_of_eq (ok : t.Ok) (hs : Sz p s) (hp : p ≤ 1000000) (hx : Its x t.n fun i => frD (v i)) (hv : ∀ i, i < t.n → Sz q (v i)) (hq : q ≤ 1000000) (hy : Its y t.h fun i => frD (w i)) (hw : ∀ i, i < t.h → Sz q (w i)) :
    ∃ d, F_shows_of [t.dat, frD s, x, y] = some d ∧ Tells (t.Shows s v w) d := by
  have hh := ok.h8
  have hg := F_gaps_of_eq ok hs hp hx hv (by omega)
  have hsl := F_slope_of_eq ok hs hp hx hv hq
  have hsu := F_sum_of_rows_eq ok hy hw hq
  refine run_ret rfl ?_
  unfold g_shows_of
  simp [hg, zp2_its (its_vL (v := t.gap s v)) hy]
  refine wp_thn (fun ρ => t.Fit s v w t.h ∧ ∃ s5 s6, ρ = ⟨([], 0, 0, 0), [.s t.dat, .s (frD s), .s x, .s y, .s (vL t.h (t.gap s v)), s5, s6]⟩) ?_ ?_
  · refine wp_for (fun i ρ => t.Fit s v w i ∧ ∃ s5 s6, ρ = ⟨([], 0, 0, 0), [.s t.dat, .s (frD s), .s x, .s y, .s (vL t.h (t.gap s v)), s5, s6]⟩) ⟨fun k hk => absurd hk (Nat.not_lt_zero _), _, _, rfl⟩ ?_ ?_
    · rintro i ρ hi ⟨h1, s5, s6, rfl⟩
      by_cases hc : t.FitAt s v w i
      · have c1 : ¬ t.gap s v i < 0 := Rat.not_lt.mpr hc.1
        have c2 : ¬ w i < 0 := Rat.not_lt.mpr hc.2.1
        have hn := Tk.Fit.succ h1 hc
        by_cases c3 : 0 < w i
        · have c4 : ¬ 0 < t.gap s v i := fun z => hc.2.2 ⟨c3, z⟩
          simp [c1, c2, c3, c4]
          exact wp_some ⟨hn, _, _, rfl⟩
        · simp [c1, c2, c3]
          exact wp_some ⟨hn, _, _, rfl⟩
      · have no : ¬ t.Shows s v w := fun z => hc (z.1 i hi)
        by_cases c1 : t.gap s v i < 0
        · simp [c1]
          exact wp_some (tells_f no)
        · by_cases c2 : w i < 0
          · simp [c1, c2]
            exact wp_some (tells_f no)
          · have c3 : 0 < w i ∧ 0 < t.gap s v i := Classical.byContradiction fun z => hc ⟨Rat.not_lt.mp c1, Rat.not_lt.mp c2, z⟩
            simp [c1, c2, c3.1, c3.2]
            exact wp_some (tells_f no)
    · rintro ρ h
      exact h
  · rintro ρ ⟨h1, s5, s6, rfl⟩
    simp [hsl, hsu, d_eqSh sh_vL sh_vL]
    refine wp_some ⟨_, rfl, ?_⟩
    rw [eqv_vL]
    exact ⟨fun z => ⟨h1, z⟩, fun z => z.2⟩
end
end PX

namespace PX
open PySem L2 DL PG
section
variable {t : Tk} {s : Rat} {p q : Nat} {v w : Nat → Rat} {x y : D}
/-! ### what a task must be -/
theorem F_is_turned_eq (ok : t.Ok) : F_is_turned [t.sqD] = some (.bool true) := by
  have hn := ok.n5
  refine run_of (w := ([], 0, 0, 0)) rfl ?_
  unfold g_is_turned
  simp [d_range (show t.n ≤ 1000000 by omega), lst_its (show t.n ≤ 1000000 by omega)]
  rw [lcGo_vec (φ := fun i => iT t.n (t.M i))]
  · simp
    rw [show (PyData.tuple (vecF t.n fun i => iT t.n (t.M i)) : D) = t.sqD from rfl]
    have sh : Sh 2 t.sqD := sh_tuple fun d hd => by
      obtain ⟨i, _, rfl⟩ := mem_vec hd
      exact sh_tuple fun d hd => by
        obtain ⟨i, _, rfl⟩ := mem_vec hd
        exact sh_int _
    rw [d_eqSh sh sh (by decide) (by decide), SeqAt.eqv_refl _ sh.1]
    rfl
  · intro i hi
    refine ⟨⟨([], 0, 0, 0), [.s t.sqD, .s (.int i), .no]⟩, ?_, rfl, ?_⟩
    · simp [Ev.wipe, wipeS]
    · simp [lst_its (show t.n ≤ 1000000 by omega)]
      rw [lcGo_vec (φ := fun j => .int (t.M i j))]
      · simp
        rfl
      · intro j hj
        refine ⟨⟨([], 0, 0, 0), [.s t.sqD, .s (.int i), .s (iT t.n (t.M j))]⟩, ?_, rfl, ?_⟩
        · simp [Ev.wipe, wipeS]
        · simp [ix_its (its_iT (v := t.M j)) hi, ok.sym i j hi hj]
theorem F_is_task_row_eq (ok : t.Ok) {i : Nat} (hi : i < t.h) : F_is_task_row [t.rowD i, .int (t.n : Nat)] = some (.bool true) := by
  have hn := ok.n5
  have e1 := F_is_row_eq (n := t.n) (r := t.A i) (by omega) fun j hj => ok.A i j hi hj
  have e2 := F_is_small_eq (ok.b i hi)
  have e3 := F_is_small_eq (ok.e i hi)
  refine run_of (w := ([], 0, 0, 0)) rfl ?_
  unfold g_is_task_row Tk.rowD
  simp [e1, e2, e3]
theorem F_need_share_eq : F_need_share [frD s] = some .none := by
  refine run_nx (ρ := ⟨([], 0, 0, 0), [.s (frD s)]⟩) rfl ?_
  unfold g_need_share
  simp [F_is_fraction_eq]
theorem F_need_plan_eq {n : Nat} (hn : n ≤ 1000) : F_need_plan [vT n v, .int (n : Nat)] = some .none := by
  refine run_nx (ρ := ⟨([], 0, 0, 0), [.s (vT n v), .s (.int n), .no]⟩) rfl ?_
  unfold g_need_plan
  simp [vT, lst_its (show n ≤ 1000000 by omega)]
  rw [lcGo_vec (φ := fun _ => .bool true)]
  · simp [d_allT]
  · intro i hi
    refine ⟨⟨([], 0, 0, 0), [.s (vT n v), .s (.int n), .s (frD (v i))]⟩, ?_, rfl, ?_⟩
    · simp [Ev.wipe, wipeS, vT]
    · simp [F_is_fraction_eq]
/-! ### positive: is_above -/
/-- rows told as sums of the rows of M -/
structure Abv (n b : Nat) (M : Tab) (a : Nat) (T : Tab) : Prop where
  z : ∀ i, a ≤ i → i < n → ∃ z : Nat → Rat, z i = 1 ∧ (∀ k, a ≤ k → k ≠ i → z k = 0) ∧ ∀ j, T i j = sumN n fun k => z k * M k j
  o : ∀ i j, a ≤ i → i < n → j < a → T i j = 0
  s : TSz n n (bd b a) T
theorem Abv.pos {n b a : Nat} {M T : Tab} (h : Abv n b M a T) (ha : a < n) (pd : ∀ z : Nat → Rat, (∃ i, i < n ∧ z i ≠ 0) → 0 < sumN n fun i => z i * sumN n fun j => M i j * z j) : 0 < T a a := by
  obtain ⟨z, z1, z2, z3⟩ := h.z a (Nat.le_refl a) ha
  have p := pd z ⟨a, ha, by rw [z1]; decide⟩
  have e : (sumN n fun i => z i * sumN n fun j => M i j * z j) = sumN n fun j => T a j * z j := by
    have e1 : (sumN n fun i => z i * sumN n fun j => M i j * z j) = sumN n fun i => sumN n fun j => z i * (M i j * z j) := sumN_congr fun i _ => sumN_mul.symm
    rw [e1, sumN_comm]
    refine sumN_congr fun j _ => ?_
    rw [z3 j, ← sumN_mul_right]
    exact sumN_congr fun i _ => by grind
  rw [e, sumN_one ha fun j hj hn => ?_, z1, Rat.mul_one] at p
  · exact p
  · by_cases hja : j < a
    · rw [h.o a j (Nat.le_refl a) ha hja, Rat.zero_mul]
    · rw [z2 j (by omega) hn, Rat.mul_zero]
/-- the rows behind a, freed of column a, up to k -/
def abvK (T : Tab) (a k : Nat) : Tab := fun i => if a < i ∧ i < k then (fun j => T i j + -(T i a / T a a) * T a j) else T i
theorem abvK_set {T : Tab} {a k : Nat} (h : a < k) : updT (abvK T a k) k (fun j => T k j + -(T k a / T a a) * T a j) = abvK T a (k + 1) := by
  funext i
  unfold updT abvK
  by_cases hi : i = k
  · subst hi
    rw [if_pos rfl, if_pos ⟨h, by omega⟩]
  · rw [if_neg hi]
    by_cases h2 : a < i ∧ i < k
    · rw [if_pos h2, if_pos ⟨h2.1, by omega⟩]
    · rw [if_neg h2, if_neg (by omega)]
theorem Abv.step {n b a : Nat} {M T : Tab} (h : Abv n b M a T) (ha : a < n) (h0 : T a a ≠ 0) : Abv n b M (a + 1) (abvK T a n) := by
  obtain ⟨z, z1, z2, z3⟩ := h.z a (Nat.le_refl a) ha
  refine ⟨fun i hai hi => ?_, fun i j hai hi hj => ?_, fun i j hi hj => ?_⟩
  · obtain ⟨y, y1, y2, y3⟩ := h.z i (by omega) hi
    refine ⟨fun k => y k + -(T i a / T a a) * z k, ?_, fun k hk hki => ?_, fun j => ?_⟩
    · show y i + -(T i a / T a a) * z i = 1
      rw [y1, z2 i (by omega) (by omega)]
      grind
    · show y k + -(T i a / T a a) * z k = 0
      rw [y2 k (by omega) hki, z2 k (by omega) (by omega)]
      grind
    · unfold abvK
      rw [if_pos ⟨by omega, hi⟩]
      show T i j + -(T i a / T a a) * T a j = _
      rw [y3 j, z3 j, ← sumN_mul, ← sumN_add]
      generalize -(T i a / T a a) = c
      exact sumN_congr fun k _ => by grind
  · unfold abvK
    rw [if_pos ⟨by omega, hi⟩]
    show T i j + -(T i a / T a a) * T a j = 0
    by_cases e : j = a
    · subst e
      have := Rat.mul_inv_cancel _ h0
      rw [Rat.div_def]
      grind
    · rw [h.o i j (by omega) hi (by omega), h.o a j (Nat.le_refl a) ha (by omega)]
      grind
  · show Sz (4 * bd b a + 1) _
    unfold abvK
    by_cases e : a < i ∧ i < n
    · rw [if_pos e]
      exact ((h.s i j hi hj).add (((h.s i a hi ha).div (h.s a a ha ha) h0).neg.mul (h.s a j ha hj))).mono (by omega)
    · rw [if_neg e]
      exact (h.s i j hi hj).mono (by omega)
theorem F_is_above_eq (ok : t.Ok) (h4 : t.n ≤ 4) : F_is_above [t.sqD] = some (.bool true) := by
  have hn := h4
  have hb4 : bd 10 4 = 2645 := rfl
  have hb : ∀ a, a < t.n → 4 * bd 10 a + 1 ≤ 2645 := fun a ha => by
    have : bd 10 (a + 1) ≤ bd 10 4 := bd_le (by omega)
    rw [hb4] at this
    exact this
  obtain ⟨d, e, rfl⟩ : ∃ d, runP g_is_above 1 7 [t.sqD] = some d ∧ d = .bool true := by
    refine run_ret (P := fun d => d = .bool true) rfl ?_
    unfold g_is_above
    simp [lst_its (show t.n ≤ 1000000 by omega)]
    rw [lcGo_vec (φ := fun i => vL t.n fun j => (t.M i j : Rat))]
    · simp
      rw [show (vecF t.n fun i => vL t.n fun j => (t.M i j : Rat)) = tabD t.n t.n (fun i j => (t.M i j : Rat)) from rfl]
      simp [d_range (show t.n ≤ 1000000 by omega)]
      refine wp_thn (fun ρ => ∃ l, ρ = ⟨([], 0, 0, 0), l⟩) ?_ ?_
      · refine wp_for (fun a ρ => ∃ T s2 s3 s4, Abv t.n 10 (fun i j => (t.M i j : Rat)) a T ∧ ρ = ⟨([], 0, 0, 0), [.s t.sqD, .o (tabD t.n t.n T), s2, s3, s4, .no, .no]⟩) ⟨_, _, _, _, ⟨fun i _ hi => ⟨fun k => if k = i then 1 else 0, if_pos rfl, fun k _ hk => if_neg hk, fun j => ?_⟩, fun i j _ _ h => absurd h (Nat.not_lt_zero _), fun i j hi hj => sz10 (ok.M i j hi hj)⟩, rfl⟩ ?_ ?_
        · rw [sumN_one hi fun k hk hki => by simp only [if_neg hki, Rat.zero_mul]]
          simp only [if_true, Rat.one_mul]
        · rintro a ρ ha ⟨T, s2, s3, s4, h, rfl⟩
          have hpos := h.pos ha ok.pd
          have h0 : T a a ≠ 0 := fun z => by rw [z] at hpos; exact absurd hpos (by decide)
          have hle : ¬ (T a a).num ≤ 0 := by have := numgt.mpr hpos; omega
          have h' := h.step ha h0
          have hba := hb a ha
          have er : dRange (.int ((a : Int) + 1)) (.int (t.n : Int)) = some (vecF (t.n - (a + 1)) fun i => .int ((a + 1 + i : Nat) : Int)) := d_range2 (a := a + 1) (b := t.n) (by omega) (by omega)
          simp [tab_ix ha, vL_ix ha, hle, er]
          refine wp_for (fun k ρ => ∃ s3 s4, ρ = ⟨([], 0, 0, 0), [.s t.sqD, .o (tabD t.n t.n (abvK T a (a + 1 + k))), .s (.int a), s3, s4, .no, .no]⟩) ⟨s3, s4, ?_⟩ ?_ ?_
          · have e0 : abvK T a (a + 1 + 0) = T := by
              funext i
              unfold abvK
              rw [if_neg (by omega)]
            rw [e0]
          · rintro k ρ hk ⟨t3, t4, rfl⟩
            obtain ⟨r, er⟩ : ∃ r : Nat, r = a + 1 + k := ⟨_, rfl⟩
            have hr : r < t.n := by omega
            have har : a < r := by omega
            rw [show a + 1 + (k + 1) = r + 1 by omega, ← er]
            have ea : abvK T a r a = T a := by
              unfold abvK
              rw [if_neg (by omega)]
            have ek : abvK T a r r = T r := by
              unfold abvK
              rw [if_neg (by omega)]
            have e1 := F_over_eq (h.s r a hr ha) (h.s a a ha ha) (by omega) h0
            have e2 := F_added_eq (its_vL (n := t.n) (v := T r)) (its_vL (v := T a)) (by omega) (fun j hj => h.s r j hr hj) (fun j hj => h.s a j ha hj) ((h.s r a hr ha).div (h.s a a ha ha) h0).neg (by omega)
            rw [frD_neg] at e2
            have eri : (a : Int) + 1 + (k : Int) = (r : Int) := by omega
            simp [eri, tab_ix ha, tab_ix hr, ea, ek, vL_ix ha, e1, e2, tab_st hr, abvK_set har]
            exact wp_some ⟨_, _, rfl⟩
          · rintro ρ ⟨t3, t4, rfl⟩
            rw [show a + 1 + (t.n - (a + 1)) = t.n by omega]
            exact ⟨_, h', _, _, _, rfl⟩
        · rintro ρ ⟨T, s2, s3, s4, h, rfl⟩
          exact ⟨_, rfl⟩
      · rintro ρ ⟨l, rfl⟩
        simp
        exact wp_some rfl
    · intro i hi
      refine ⟨⟨([], 0, 0, 0), [.s t.sqD, .no, .no, .no, .no, .s (iT t.n (t.M i)), .no]⟩, ?_, rfl, ?_⟩
      · simp [Ev.wipe, wipeS]
      · simp [lst_its (show t.n ≤ 1000000 by omega)]
        rw [lcGo_vec (φ := fun j => frD (t.M i j : Rat))]
        · rfl
        · intro j hj
          refine ⟨⟨([], 0, 0, 0), [.s t.sqD, .no, .no, .no, .no, .s (iT t.n (t.M i)), .s (.int (t.M i j))]⟩, ?_, rfl, ?_⟩
          · simp [Ev.wipe, wipeS]
          · simp
            rfl
  exact e
end
end PX

namespace PX
open PySem L2 DL PG
section
variable {t : Tk} {s : Rat} {p q : Nat} {v w : Nat → Rat} {x y : D}
theorem F_need_task_eq (ok : t.Ok) (h4 : t.Sm) : F_need_task [t.dat] = some .none := by
  have hn := h4.n4
  have h1 := ok.n1
  have hh := ok.h8
  have e1 := F_is_turned_eq ok
  have e2 := F_is_above_eq ok h4.n4
  have e3 := F_is_row_eq (n := t.n) (r := t.c) (by omega) h4.c
  have e4 := F_is_row_eq (n := t.n) (r := t.d) (by omega) ok.d
  have c1 : (1 : Int) ≤ (t.n : Int) := by omega
  have c2 : (t.n : Int) ≤ 4 := by omega
  have c3 : ¬ (8 : Int) < (t.h : Int) := by omega
  have i1 : dIsi "tuple" t.sqD = some (.bool true) := isi_tt
  have i2 : dIsi "tuple" t.rowsD = some (.bool true) := isi_tt
  obtain ⟨d, e, rfl⟩ : ∃ d, runP g_need_task 1 7 [t.dat] = some d ∧ d = .none := by
    refine run_ret (P := fun d => d = .none) rfl ?_
    unfold g_need_task
    have i0 : dIsi "tuple" t.dat = some (.bool true) := isi_tt
    have l0 : dLen t.dat = some (.int 4) := rfl
    simp [i0, l0]
    unfold Tk.dat
    simp [i1, c1, c2, lst_its (show t.n ≤ 1000000 by omega)]
    rw [lcGo_vec (φ := fun _ => .bool true)]
    · simp [d_allT, e1, e2, e3, e4, i2, c3, lst_its (show t.h ≤ 1000000 by omega)]
      rw [lcGo_vec (φ := fun _ => .bool true)]
      · simp [d_allT]
        exact wp_some rfl
      · intro i hi
        refine ⟨⟨([], 0, 0, 0), [.s (.tuple [t.sqD, iT t.n t.c, iT t.n t.d, t.rowsD]), .s t.sqD, .s (iT t.n t.c), .s (iT t.n t.d), .s t.rowsD, .s (.int t.n), .s (t.rowD i)]⟩, ?_, rfl, ?_⟩
        · simp [Ev.wipe, wipeS]
        · simp [F_is_task_row_eq ok hi]
    · intro i hi
      refine ⟨⟨([], 0, 0, 0), [.s (.tuple [t.sqD, iT t.n t.c, iT t.n t.d, t.rowsD]), .s t.sqD, .s (iT t.n t.c), .s (iT t.n t.d), .s t.rowsD, .s (.int t.n), .s (iT t.n (t.M i))]⟩, ?_, rfl, ?_⟩
      · simp [Ev.wipe, wipeS]
      · simp [F_is_row_eq (n := t.n) (r := t.M i) (by omega) fun j hj => ok.M i j hi hj]
  exact e
theorem F_need_both_eq (ok : t.Ok) (h4 : t.Sm) : F_need_both [t.dat, frD s] = some .none := by
  refine run_nx (ρ := ⟨([], 0, 0, 0), [.s t.dat, .s (frD s)]⟩) rfl ?_
  unfold g_need_both
  simp [F_need_task_eq ok h4, F_need_share_eq]
theorem F_worth_eq (ok : t.Ok) (h4 : t.Sm) (hs : Sz p s) (hp : p ≤ 1000000) (hv : ∀ i, i < t.n → Sz q (v i)) (hq : q ≤ 1000000) : F_worth [t.dat, frD s, vT t.n v] = some (frD (t.worth s v)) := by
  have hn := h4.n4
  refine run_of (w := ([], 0, 0, 0)) rfl ?_
  unfold g_worth
  simp [F_need_both_eq ok h4, F_need_plan_eq (n := t.n) (v := v) (by omega), F_worth_of_eq ok hs hp its_vT rfl hv hq]
theorem F_is_kept_eq (ok : t.Ok) (h4 : t.Sm) (hs : Sz p s) (hp : p ≤ 1000000) (hv : ∀ i, i < t.n → Sz q (v i)) (hq : q ≤ 1000000) : ∃ d, F_is_kept [t.dat, frD s, vT t.n v] = some d ∧ Tells (∀ i, i < t.h → 0 ≤ t.gap s v i) d := by
  have hn := h4.n4
  obtain ⟨β, e, h⟩ := F_keeps_eq ok hs hp (its_vT (n := t.n) (v := v)) hv hq
  refine ⟨.bool β, ?_, β, rfl, h⟩
  refine run_of (w := ([], 0, 0, 0)) rfl ?_
  unfold g_is_kept
  simp [F_need_both_eq ok h4, F_need_plan_eq (n := t.n) (v := v) (by omega), e]
theorem F_shows_eq (ok : t.Ok) (h4 : t.Sm) (hs : Sz p s) (hp : p ≤ 1000000) (hv : ∀ i, i < t.n → Sz q (v i)) (hq : q ≤ 1000000) (hw : ∀ i, i < t.h → Sz q (w i)) : ∃ d, F_shows [t.dat, frD s, vT t.n v, vT t.h w] = some d ∧ Tells (t.Shows s v w) d := by
  have hn := h4.n4
  have hh := ok.h8
  obtain ⟨d, e, h⟩ := F_shows_of_eq ok hs hp (its_vT (n := t.n) (v := v)) hv hq (its_vT (n := t.h) (v := w)) hw
  refine ⟨d, ?_, h⟩
  refine run_of (w := ([], 0, 0, 0)) rfl ?_
  unfold g_shows
  simp [F_need_both_eq ok h4, F_need_plan_eq (n := t.n) (v := v) (by omega), F_need_plan_eq (n := t.h) (v := w) (by omega), e]
theorem any_vec {n : Nat} {b : Nat → Bool} : (vecF n b).any id = true ↔ ∃ i, i < n ∧ b i = true := by
  rw [List.any_eq_true]
  constructor
  · rintro ⟨x, hx, h⟩
    obtain ⟨i, hi, rfl⟩ := mem_vec hx
    exact ⟨i, hi, h⟩
  · rintro ⟨i, hi, h⟩
    exact ⟨b i, List.mem_map.mpr ⟨i, List.mem_range.mpr hi, rfl⟩, h⟩
theorem any_false {n : Nat} {b : Nat → Bool} (h : ∀ i, i < n → b i = false) : (vecF n b).any id = false := by
  cases e : (vecF n b).any id with
  | false => rfl
  | true =>
    obtain ⟨i, hi, h2⟩ := any_vec.mp e
    rw [h i hi] at h2
    cases h2
/-- the promise's parts -/
def Tk.free (t : Tk) (s : Rat) (w : Nat → Rat) (j : Nat) : Rat := t.Aw w j - t.cost s j
/-- d is the promise of w -/
def Tk.Prom (t : Tk) (s : Rat) (w : Nat → Rat) (d : D) : Prop := ∃ X : Nat → Rat, (∀ i, i < t.n → t.Mx X i = t.free s w i) ∧ d = frD (- sumN t.n (fun j => t.free s w j * X j / 2) + t.lim s w)
theorem Tk.no_null (ok : t.Ok) : ¬ ∃ z : Nat → Rat, (∃ j, j < t.n ∧ z j ≠ 0) ∧ ∀ i, i < t.n → sumN t.n (fun j => (t.M i j : Rat) * z j) = 0 := by
  rintro ⟨z, h1, h2⟩
  have h := ok.pd z h1
  rw [sumN_zero fun i hi => by rw [h2 i hi, Rat.mul_zero]] at h
  exact absurd h (by decide)
theorem bd4 {b n : Nat} (hn : n ≤ 4) : bd b n ≤ 256 * b + 85 := by
  have h1 : bd b n ≤ bd b 4 := bd_le hn
  have h2 : bd b 4 = 4 * (4 * (4 * (4 * b + 1) + 1) + 1) + 1 := rfl
  omega
theorem half_eq (a : Rat) : a / 2 = a / 2 := rfl
theorem F_promise_of_ok (ok : t.Ok) (h4 : t.Sm) (hs : Sz p s) (hp : p ≤ 5000) (hy : Its y t.h fun i => frD (w i)) (hys : slL (.s y) = some y) (hw : ∀ i, i < t.h → Sz q (w i)) (hq : q ≤ 5000) : ∃ d, F_promise_of [t.dat, frD s, y] = some d ∧ t.Prom s w d := by
  have hn := h4.n4
  have hh := ok.h8
  have hsu := F_sum_of_rows_eq ok hy hw (by omega)
  have hc := F_costs_at_eq ok hs (by omega)
  have hr := F_rights_at_eq ok hs (by omega)
  have zA : ∀ j, j < t.n → Sz (8 * q + 100) (t.Aw w j) := fun j hj => Tk.Aw_sz ok hw (Nat.le_refl _) hj
  have m1 : Sz 1 (-1) := ⟨by decide, by decide⟩
  have ha := F_added_eq (c := -1) (its_vL (n := t.n) (v := t.Aw w)) (its_vL (v := t.cost s)) (by omega) zA (fun i hi => Tk.cost_sz ok hs hi) m1 (by omega)
  rw [show frD (-1) = .tuple [.int (-1), .int 1] from rfl] at ha
  have e : (vL t.n fun i => t.Aw w i + -1 * t.cost s i) = vL t.n (t.free s w) := by
    congr 1
    funext i
    unfold Tk.free
    grind
  rw [e] at ha
  have zf : ∀ j, j < t.n → Sz (8 * q + p + 122) (t.free s w j) := fun j hj => ((zA j hj).sub (Tk.cost_sz ok hs hj)).mono (by omega)
  refine run_ret rfl ?_
  unfold g_promise_of
  simp [hsu, hc, ha, lst_its (show t.n ≤ 1000000 by omega)]
  rw [lcGo_vec (φ := fun i => vL t.n fun j => (t.M i j : Rat))]
  · obtain ⟨d, e1, e2⟩ := F_solved_ok (b := 8 * q + p + 122) (rows := .list (vecF t.n fun i => vL t.n fun j => (t.M i j : Rat))) (sides := .list [vL t.n (t.free s w)]) (r := fun i => vL t.n fun j => (t.M i j : Rat)) (sd := fun _ => vL t.n (t.free s w)) (R := fun i j => (t.M i j : Rat)) (S := fun _ => t.free s w) (n := t.n) (m := 1) rfl (fun i hi => rfl) rfl (fun i hi => rfl) (by omega) (by decide)
      (fun i j hi hj => (sz10 (ok.M i j hi hj)).mono (by omega)) (fun s i _ hi => zf i hi) (by have := bd4 (b := 8 * q + p + 122) hn; omega)
    rcases e2 with ⟨_, hz⟩ | ⟨X, rfl, hX, zX⟩
    · exact absurd hz (Tk.no_null ok)
    · simp only [show vecF 1 (fun s => vL t.n (X s)) = [vL t.n (X 0)] from rfl] at e1
      simp [e1]
      have hX0 := (hX 0 (by decide) (X 0)).mpr fun _ _ => rfl
      have zX0 : ∀ i, i < t.n → Sz (256 * (8 * q + p + 122) + 85) (X 0 i) := fun i hi => (zX 0 i (by decide) hi).mono (bd4 hn)
      simp [zp2_its (its_vL (v := t.free s w)) (its_vL (v := X 0))]
      have zt : ∀ j, j < t.n → Sz (257 * (8 * q + p + 122) + 87) (t.free s w j * X 0 j / 2) := fun j hj => (((zf j hj).mul (zX0 j hj)).div sz2 two_ne).mono (by omega)
      have zsum : ∀ i, i ≤ t.n → Sz (4 * (257 * (8 * q + p + 122) + 88) + 1) (sumN i fun j => t.free s w j * X 0 j / 2) := fun i hi => (sz_sum fun j hj => zt j (by omega)).mono (by
        have : i * (257 * (8 * q + p + 122) + 87 + 1) ≤ 4 * (257 * (8 * q + p + 122) + 87 + 1) := Nat.mul_le_mul_right _ (by omega)
        omega)
      refine wp_thn (fun ρ => ∃ s6 s7, ρ = ⟨([], 0, 0, 0), [.s t.dat, .s (frD s), .s y, .s (vL t.n (t.free s w)), .s (vL t.n (X 0)), .s (frD (- sumN t.n fun j => t.free s w j * X 0 j / 2)), s6, s7, .no, .no, .no]⟩) ?_ ?_
      · refine wp_for (fun i ρ => ∃ s6 s7, ρ = ⟨([], 0, 0, 0), [.s t.dat, .s (frD s), .s y, .s (vL t.n (t.free s w)), .s (vL t.n (X 0)), .s (frD (- sumN i fun j => t.free s w j * X 0 j / 2)), s6, s7, .no, .no, .no]⟩) ⟨_, _, rfl⟩ ?_ ?_
        · rintro i ρ hi ⟨s6, s7, rfl⟩
          have f1 := F_times_eq (zf i hi) (zX0 i hi) (by omega)
          have f2 := F_over_eq ((zf i hi).mul (zX0 i hi)) sz2 (by omega) two_ne
          have f3 := F_less_eq (zsum i (by omega)).neg (zt i hi) (by omega)
          rw [frD_2] at f2
          have f4 : (- sumN i fun j => t.free s w j * X 0 j / 2) - t.free s w i * X 0 i / 2 = - sumN (i + 1) fun j => t.free s w j * X 0 j / 2 := by
            show _ = - ((sumN i fun j => t.free s w j * X 0 j / 2) + t.free s w i * X 0 i / 2)
            grind
          rw [f4] at f3
          simp [f1, f2, f3]
          exact wp_some ⟨_, _, rfl⟩
        · rintro ρ h
          exact h
      · rintro ρ ⟨s6, s7, rfl⟩
        simp [hr, zp2_its (its_vL (v := t.right s)) hy]
        have zr : ∀ j, j < t.h → Sz (q + p + 21) (t.right s j * w j) := fun j hj => ((Tk.right_sz ok hs hj).mul (hw j hj)).mono (by omega)
        have zrs : ∀ i, i ≤ t.h → Sz (8 * (q + p + 22) + 1) (sumN i fun j => t.right s j * w j) := fun i hi => (sz_sum fun j hj => zr j (by omega)).mono (by
          have : i * (q + p + 21 + 1) ≤ 8 * (q + p + 21 + 1) := Nat.mul_le_mul_right _ (by omega)
          omega)
        refine wp_thn (fun ρ => ∃ l, ρ = ⟨([], 0, 0, 0), .s t.dat :: .s (frD s) :: .s y :: .s (vL t.n (t.free s w)) :: .s (vL t.n (X 0)) :: .s (frD ((- sumN t.n fun j => t.free s w j * X 0 j / 2) + t.lim s w)) :: l⟩) ?_ ?_
        · refine wp_for (fun i ρ => ∃ s8 s9, ρ = ⟨([], 0, 0, 0), [.s t.dat, .s (frD s), .s y, .s (vL t.n (t.free s w)), .s (vL t.n (X 0)), .s (frD ((- sumN t.n fun j => t.free s w j * X 0 j / 2) + sumN i fun j => t.right s j * w j)), s6, s7, s8, s9, .no]⟩) ⟨_, _, by rw [show (sumN 0 fun j => t.right s j * w j) = 0 from rfl, Rat.add_zero]⟩ ?_ ?_
          · rintro i ρ hi ⟨s8, s9, rfl⟩
            have f1 := F_times_eq (Tk.right_sz ok hs hi) (hw i hi) (by omega)
            have f2 := F_plus_eq ((zsum t.n (Nat.le_refl _)).neg.add (zrs i (by omega))) (zr i hi) (by omega)
            have f4 : ((- sumN t.n fun j => t.free s w j * X 0 j / 2) + sumN i fun j => t.right s j * w j) + t.right s i * w i = (- sumN t.n fun j => t.free s w j * X 0 j / 2) + sumN (i + 1) fun j => t.right s j * w j := by
              show _ = _ + ((sumN i fun j => t.right s j * w j) + t.right s i * w i)
              grind
            rw [f4] at f2
            simp [f1, f2]
            exact wp_some ⟨_, _, rfl⟩
          · rintro ρ ⟨s8, s9, rfl⟩
            exact ⟨_, rfl⟩
        · rintro ρ ⟨l, rfl⟩
          simp
          exact wp_some ⟨X 0, hX0, rfl⟩
  · intro i hi
    refine ⟨⟨([], 0, 0, 0), [.s t.dat, .s (frD s), .s y, .s (vL t.n (t.free s w)), .no, .no, .no, .no, .no, .no, .s (iT t.n (t.M i))]⟩, ?_, rfl, ?_⟩
    · simp [Ev.wipe, wipeS]
    · simp [lst_its (show t.n ≤ 1000000 by omega)]
      rw [lcGo_vec (φ := fun j => frD (t.M i j : Rat))]
      · rfl
      · intro j hj
        refine ⟨⟨([], 0, 0, 0), [.s t.dat, .s (frD s), .s y, .s (vL t.n (t.free s w)), .no, .no, .s (.int (t.M i j)), .no, .no, .no, .s (iT t.n (t.M i))]⟩, ?_, rfl, ?_⟩
        · simp [Ev.wipe, wipeS]
        · simp
          rfl
end
end PX

namespace PX
open PySem L2 DL PG
/-! ### a list of one's own, shared from here on -/
def fzS : Sl → Sl
  | .o ds => .s (.list ds)
  | x => x
@[simp] theorem fzS_o {ds : List D} : fzS (.o ds) = .s (.list ds) := (rfl)
theorem set_self {ρ : Ev} {i : Nat} : ρ.set i (ρ.get i) = ρ := by
  obtain ⟨r, sl⟩ := ρ
  unfold Ev.set Ev.get
  congr 1
  apply List.ext_getElem?
  intro j
  rw [List.getElem?_set]
  by_cases h : i = j
  · subst h
    rw [if_pos rfl, List.getD_eq_getElem?_getD]
    by_cases h2 : i < sl.length
    · rw [if_pos h2, List.getElem?_eq_getElem h2]
      rfl
    · rw [if_neg h2, List.getElem?_eq_none (by omega)]
  · rw [if_neg h]
@[simp] theorem e_gfz {i : Nat} {g : MS} {ρ : Ev} : gFz i g ρ = g (ρ.set i (fzS (ρ.get i))) := by
  unfold gFz Ev.fz
  cases e : ρ.get i with
  | o ds => rfl
  | _ =>
    have := set_self (ρ := ρ) (i := i)
    rw [e] at this
    simp only [fzS]
    rw [this]
theorem ap_o {l : List D} {d : D} (h : l.length < 1000000) : apO (.o l) d = some (.o (l ++ [d])) := by
  unfold apO
  simp only
  rw [if_pos h]
section
variable {t : Tk} {s : Rat} {p q : Nat} {v w : Nat → Rat} {x y : D}
theorem F_promise_ok (ok : t.Ok) (h4 : t.Sm) (hs : Sz p s) (hp : p ≤ 5000) (hw : ∀ i, i < t.h → Sz q (w i)) (hq : q ≤ 5000) :
    ∃ d, F_promise [t.dat, frD s, vT t.h w] = some d ∧ (((∃ i, i < t.h ∧ w i < 0) ∧ d = .none) ∨ ((∀ i, i < t.h → 0 ≤ w i) ∧ t.Prom s w d)) := by
  have hh := ok.h8
  obtain ⟨d, e, hd⟩ := F_promise_of_ok ok h4 hs hp (its_vT (n := t.h) (v := w)) rfl hw hq
  refine run_ret rfl ?_
  unfold g_promise
  simp [F_need_both_eq ok h4, F_need_plan_eq (n := t.h) (v := w) (by omega), lst_its (show t.h ≤ 1000000 by omega)]
  rw [lcGo_vec (φ := fun i => .bool (decide (w i < 0)))]
  · simp [d_any]
    by_cases h : ∃ i, i < t.h ∧ w i < 0
    · have h2 : (vecF t.h fun i => decide (w i < 0)).any id = true := any_vec.mpr (by simpa using h)
      rw [h2]
      simp
      exact wp_some (.inl ⟨h, rfl⟩)
    · have h1 : ∀ i, i < t.h → 0 ≤ w i := fun i hi => Rat.not_lt.mp fun z => h ⟨i, hi, z⟩
      rw [any_false fun i hi => decide_eq_false (Rat.not_lt.mpr (h1 i hi))]
      simp [e]
      exact wp_some (.inr ⟨h1, hd⟩)
  · intro i hi
    refine ⟨⟨([], 0, 0, 0), [.s t.dat, .s (frD s), .s (vT t.h w), .s (frD (w i))]⟩, ?_, rfl, ?_⟩
    · simp [Ev.wipe, wipeS]
    · simp
/-- weights that bar -/
def Tk.Bars (t : Tk) (s : Rat) (w : Nat → Rat) : Prop := (∀ i, i < t.h → 0 ≤ w i) ∧ (∀ j, j < t.n → t.Aw w j = 0) ∧ 0 < t.lim s w
theorem F_bars_ok (ok : t.Ok) (h4 : t.Sm) (hs : Sz p s) (hp : p ≤ 1000000) (hw : ∀ i, i < t.h → Sz q (w i)) (hq : q ≤ 1000000) : ∃ d, F_bars [t.dat, frD s, vT t.h w] = some d ∧ Tells (t.Bars s w) d := by
  have hn := ok.n5
  have hh := ok.h8
  have hsu := F_sum_of_rows_eq ok (its_vT (n := t.h) (v := w)) hw hq
  have hr := F_rights_at_eq ok hs hp
  refine run_ret rfl ?_
  unfold g_bars
  simp [F_need_both_eq ok h4, F_need_plan_eq (n := t.h) (v := w) (by omega), lst_its (show t.h ≤ 1000000 by omega)]
  rw [lcGo_vec (φ := fun i => .bool (decide (w i < 0)))]
  · simp [d_any]
    by_cases h : ∃ i, i < t.h ∧ w i < 0
    · have h2 : (vecF t.h fun i => decide (w i < 0)).any id = true := any_vec.mpr (by simpa using h)
      rw [h2]
      simp
      exact wp_some (tells_f fun z => by
        obtain ⟨i, hi, hn⟩ := h
        exact absurd hn (Rat.not_lt.mpr (z.1 i hi)))
    · have h1 : ∀ i, i < t.h → 0 ≤ w i := fun i hi => Rat.not_lt.mp fun z => h ⟨i, hi, z⟩
      rw [any_false fun i hi => decide_eq_false (Rat.not_lt.mpr (h1 i hi))]
      simp [hsu, lst_its (show t.n ≤ 1000000 by omega)]
      rw [lcGo_vec (φ := fun j => .bool (!decide ((t.Aw w j).num = 0)))]
      · simp only [bnd_some]
        rw [d_any]
        by_cases h3 : ∃ j, j < t.n ∧ t.Aw w j ≠ 0
        · have h4 : (vecF t.n fun j => !decide ((t.Aw w j).num = 0)).any id = true := any_vec.mpr (by
            obtain ⟨j, hj, hz⟩ := h3
            exact ⟨j, hj, by simpa using num_ne hz⟩)
          rw [h4]
          simp
          exact wp_some (tells_f fun z => by
            obtain ⟨j, hj, hz⟩ := h3
            exact hz (z.2.1 j hj))
        · have h5 : ∀ j, j < t.n → t.Aw w j = 0 := fun j hj => Classical.byContradiction fun z => h3 ⟨j, hj, z⟩
          rw [any_false fun j hj => by rw [h5 j hj]; rfl]
          simp [hr, zp2_its (its_vL (v := t.right s)) (its_vT (n := t.h) (v := w))]
          have zr : ∀ j, j < t.h → Sz (q + p + 21) (t.right s j * w j) := fun j hj => ((Tk.right_sz ok hs hj).mul (hw j hj)).mono (by omega)
          have zrs : ∀ i, i ≤ t.h → Sz (8 * (q + p + 22) + 1) (sumN i fun j => t.right s j * w j) := fun i hi => (sz_sum fun j hj => zr j (by omega)).mono (by
            have : i * (q + p + 21 + 1) ≤ 8 * (q + p + 21 + 1) := Nat.mul_le_mul_right _ (by omega)
            omega)
          refine wp_thn (fun ρ => ∃ l, ρ = ⟨([], 0, 0, 0), .s t.dat :: .s (frD s) :: .s (vT t.h w) :: .s (frD (t.lim s w)) :: l⟩) ?_ ?_
          · refine wp_for (fun i ρ => ∃ s4 s5, ρ = ⟨([], 0, 0, 0), [.s t.dat, .s (frD s), .s (vT t.h w), .s (frD (sumN i fun j => t.right s j * w j)), s4, s5, .no]⟩) ⟨_, _, rfl⟩ ?_ ?_
            · rintro i ρ hi ⟨s4, s5, rfl⟩
              have f1 := F_times_eq (Tk.right_sz ok hs hi) (hw i hi) (by omega)
              have f2 := F_plus_eq (zrs i (by omega)) (zr i hi) (by omega)
              simp [f1, f2]
              exact wp_some ⟨_, _, rfl⟩
            · rintro ρ ⟨s4, s5, rfl⟩
              exact ⟨_, rfl⟩
          · rintro ρ ⟨l, rfl⟩
            simp
            refine wp_some ⟨_, rfl, ?_⟩
            rw [decide_eq_true_eq]
            exact ⟨fun z => ⟨h1, h5, z⟩, fun z => z.2.2⟩
      · intro j hj
        refine ⟨⟨([], 0, 0, 0), [.s t.dat, .s (frD s), .s (vT t.h w), .no, .no, .no, .s (frD (t.Aw w j))]⟩, ?_, rfl, ?_⟩
        · simp [Ev.wipe, wipeS]
        · simp
  · intro i hi
    refine ⟨⟨([], 0, 0, 0), [.s t.dat, .s (frD s), .s (vT t.h w), .no, .no, .no, .s (frD (w i))]⟩, ?_, rfl, ?_⟩
    · simp [Ev.wipe, wipeS]
    · simp
/-! ### the law's own -/
theorem F_law_slope_eq (ok : t.Ok) (hs : Sz p s) (hp : p ≤ 1000000) (hx : Its x t.n fun i => frD (v i)) (hv : ∀ i, i < t.n → Sz q (v i)) (hq : q ≤ 1000000) : F_law_slope [t.dat, frD s, x] = some (vL t.n (t.slope s v)) := by
  have hn := ok.n5
  refine run_of (w := ([], 0, 0, 0)) rfl ?_
  unfold g_law_slope
  simp [len_its hx, d_range (show t.n ≤ 1000000 by omega)]
  refine thn_for (fun i ρ => ∃ s4 s5, ρ = ⟨([], 0, 0, 0), [.s t.dat, .s (frD s), .s x, .o (vecF i fun j => frD (t.slope s v j)), s4, s5]⟩) ⟨_, _, rfl⟩ (fun i ρ hi hJ => ?_) (fun ρ hJ => ?_)
  · obtain ⟨s4, s5, rfl⟩ := hJ
    have e1 := F_law_times_eq (sz10 (ok.d i hi)) hs (by omega)
    have e2 := F_law_plus_eq (sz12 (ok.c i hi)) ((sz10 (ok.d i hi)).mul hs) (by omega)
    rw [frD_int] at e1 e2
    have e3 := F_law_inner8 (its_iT (v := t.M i)) hx (by omega) (fun j hj => ok.M i j hi hj) hv (by omega)
    rw [show (sumN t.n fun j => (t.M i j : Rat) * v j) = t.Mx v i from rfl] at e3
    have e4 := F_law_plus_eq (Tk.Mx_sz ok hv hi) (Tk.cost_sz ok hs hi) (by omega)
    rw [show t.Mx v i + t.cost s i = t.slope s v i from rfl] at e4
    have e5 : F_law_plus [.tuple [.int (t.c i), .int 1], frD ((t.d i : Rat) * s)] = some (frD (t.cost s i)) := e2
    have e6 : apO (.o (vecF i fun j => frD (t.slope s v j))) (frD (t.slope s v i)) = some (.o (vecF (i + 1) fun j => frD (t.slope s v j))) := by
      rw [ap_o (by simp; omega), vecF_succ]
    refine ⟨_, ?_, ⟨.s (.int i), .s (frD (t.cost s i)), rfl⟩⟩
    simp [ix_its (its_iT (v := t.d)) hi, ix_its (its_iT (v := t.c)) hi, ix_its its_sq hi, e1, e5, e3, e4, e6]
  · obtain ⟨s4, s5, rfl⟩ := hJ
    simp
    rfl
theorem F_law_gaps_eq (ok : t.Ok) (hs : Sz p s) (hp : p ≤ 1000000) (hx : Its x t.n fun i => frD (v i)) (hv : ∀ i, i < t.n → Sz q (v i)) (hq : q ≤ 1000000) : F_law_gaps [t.dat, frD s, x] = some (vL t.h (t.gap s v)) := by
  have hn := ok.n5
  have hh := ok.h8
  refine run_of (w := ([], 0, 0, 0)) rfl ?_
  unfold g_law_gaps
  simp
  refine thn_for (fun i ρ => ∃ s4 s5 s6 s7, ρ = ⟨([], 0, 0, 0), [.s t.dat, .s (frD s), .s x, .o (vecF i fun j => frD (t.gap s v j)), s4, s5, s6, s7]⟩) ⟨_, _, _, _, rfl⟩ (fun i ρ hi hJ => ?_) (fun ρ hJ => ?_)
  · obtain ⟨s4, s5, s6, s7, rfl⟩ := hJ
    have e1 := F_law_times_eq (sz10 (ok.e i hi)) hs (by omega)
    have e2 := F_law_plus_eq (sz10 (ok.b i hi)) ((sz10 (ok.e i hi)).mul hs) (by omega)
    rw [frD_int] at e1 e2
    have e3 := F_law_inner8 (its_iT (v := t.A i)) hx (by omega) (fun j hj => ok.A i j hi hj) hv (by omega)
    rw [show (sumN t.n fun j => (t.A i j : Rat) * v j) = t.Ax v i from rfl] at e3
    have e4 := F_law_less_eq (Tk.Ax_sz ok hv hi) (Tk.right_sz ok hs hi) (by omega)
    rw [show t.Ax v i - t.right s i = t.gap s v i from rfl] at e4
    have e5 : F_law_plus [.tuple [.int (t.b i), .int 1], frD ((t.e i : Rat) * s)] = some (frD (t.right s i)) := e2
    have e6 : apO (.o (vecF i fun j => frD (t.gap s v j))) (frD (t.gap s v i)) = some (.o (vecF (i + 1) fun j => frD (t.gap s v j))) := by
      rw [ap_o (by simp; omega), vecF_succ]
    refine ⟨_, ?_, ⟨.s (iT t.n (t.A i)), .s (.int (t.b i)), .s (.int (t.e i)), .s (frD (t.right s i)), rfl⟩⟩
    simp [Tk.rowD, e1, e5, e3, e4, e6]
  · obtain ⟨s4, s5, s6, s7, rfl⟩ := hJ
    simp
    rfl
theorem half_num : (1 / 2 : Rat).num = 1 := by decide +kernel
theorem half_den : (1 / 2 : Rat).den = 2 := by decide +kernel
theorem szhalf : Sz 2 (1 / 2) := ⟨by rw [half_num]; decide, by rw [half_den]; decide⟩
theorem frD_half : frD (1 / 2) = .tuple [.int 1, .int 2] := by
  unfold frD
  rw [half_num, half_den]
  rfl
theorem F_law_worth_eq (ok : t.Ok) (hs : Sz p s) (hp : p ≤ 1000000) (hx : Its x t.n fun i => frD (v i)) (hv : ∀ i, i < t.n → Sz q (v i)) (hq : q ≤ 1000000) : F_law_worth [t.dat, frD s, x] = some (frD (t.worth s v)) := by
  have hn := ok.n5
  refine run_of (w := ([], 0, 0, 0)) rfl ?_
  unfold g_law_worth
  simp [len_its hx, d_range (show t.n ≤ 1000000 by omega)]
  refine thn_for (fun i ρ => ∃ s4 s5 s6, ρ = ⟨([], 0, 0, 0), [.s t.dat, .s (frD s), .s x, .s (frD (sumN i fun j => v j * (t.Mx v j / 2 + t.cost s j))), s4, s5, s6]⟩) ⟨_, _, _, rfl⟩ (fun i ρ hi hJ => ?_) (fun ρ hJ => ?_)
  · obtain ⟨s4, s5, s6, rfl⟩ := hJ
    have e1 := F_law_times_eq (sz10 (ok.d i hi)) hs (by omega)
    have e2 := F_law_plus_eq (sz12 (ok.c i hi)) ((sz10 (ok.d i hi)).mul hs) (by omega)
    rw [frD_int] at e1 e2
    have e5 : F_law_plus [.tuple [.int (t.c i), .int 1], frD ((t.d i : Rat) * s)] = some (frD (t.cost s i)) := e2
    have e3 := F_law_inner8 (its_iT (v := t.M i)) hx (by omega) (fun j hj => ok.M i j hi hj) hv (by omega)
    rw [show (sumN t.n fun j => (t.M i j : Rat) * v j) = t.Mx v i from rfl] at e3
    have eh : ∀ a : Rat, 1 / 2 * a = a / 2 := fun a => by grind
    have e4 := F_law_times_eq szhalf (Tk.Mx_sz ok hv hi) (by omega)
    rw [eh, frD_half] at e4
    have z2 := (Tk.Mx_sz ok hv hi).div sz2 two_ne
    have z3 : ∀ j, j < t.n → Sz (9 * q + p + 125) (v j * (t.Mx v j / 2 + t.cost s j)) := fun j hj => ((hv j hj).mul (((Tk.Mx_sz ok hv hj).div sz2 two_ne).add (Tk.cost_sz ok hs hj))).mono (by omega)
    have z4 := sz_sum (n := i) fun j hj => z3 j (by omega)
    have hb : i * (9 * q + p + 125 + 1) ≤ 4 * (9 * q + p + 125 + 1) := Nat.mul_le_mul_right _ (by omega)
    have e6 := F_law_plus_eq z2 (Tk.cost_sz ok hs hi) (by omega)
    have e7 := F_law_times_eq (hv i hi) (z2.add (Tk.cost_sz ok hs hi)) (by omega)
    have e8 := F_law_plus_eq z4 (z3 i hi) (by omega)
    refine ⟨_, ?_, ⟨.s (.int i), .s (frD (t.cost s i)), .s (frD (t.Mx v i / 2)), rfl⟩⟩
    simp [ix_its (its_iT (v := t.d)) hi, ix_its (its_iT (v := t.c)) hi, ix_its its_sq hi, ix_its hx hi, e1, e5, e3, e4, e6, e7, e8]
    rfl
  · obtain ⟨s4, s5, s6, rfl⟩ := hJ
    simp
    rfl
end
end PX

namespace PX
open PySem L2 DL PG
theorem eqv_frD_dec (a b : Rat) : PyData.eqv (frD a) (frD b) = decide (a = b) := by
  by_cases h : a = b
  · rw [decide_eq_true h, eqv_frD.mpr h]
  · rw [decide_eq_false h]
    cases e : PyData.eqv (frD a) (frD b) with
    | false => rfl
    | true => exact absurd (eqv_frD.mp e) h
theorem ne_frD (a b : Rat) : dNe (frD a) (frD b) = some (.bool (!decide (a = b))) := by
  rw [d_neSh (sh_frD a) (sh_frD b) (by decide) (by decide), eqv_frD_dec]
section
variable {t : Tk} {s : Rat} {p q : Nat} {v w : Nat → Rat} {x y : D}
/-- the column of a list of rows -/
theorem F_law_col (ok : t.Ok) {j : Nat} (hj : j < t.n) (hy : Its y t.h fun i => frD (w i)) (hw : ∀ i, i < t.h → Sz q (w i)) (hq : q ≤ 1000000) : F_law_inner [.list (vecF t.h fun i => .int (t.A i j)), y] = some (frD (t.Aw w j)) := by
  have hh := ok.h8
  exact F_law_inner8 (r := fun i => t.A i j) rfl hy (by omega) (fun i hi => ok.A i j hi hj) hw (by omega)
theorem F_law_shows_ok (ok : t.Ok) (hs : Sz p s) (hp : p ≤ 1000000) (hx : Its x t.n fun i => frD (v i)) (hv : ∀ i, i < t.n → Sz q (v i)) (hq : q ≤ 1000000) (hy : Its y t.h fun i => frD (w i)) (hw : ∀ i, i < t.h → Sz q (w i)) :
    ∃ d, F_law_shows [t.dat, frD s, x, y] = some d ∧ Tells (t.Shows s v w) d := by
  have hn := ok.n5
  have hh := ok.h8
  have hg := F_law_gaps_eq ok hs hp hx hv hq
  have hsl := F_law_slope_eq ok hs hp hx hv hq
  refine run_ret rfl ?_
  unfold g_law_shows
  simp [hg, d_range (show t.h ≤ 1000000 by omega)]
  refine wp_thn (fun ρ => t.Fit s v w t.h ∧ ∃ s5, ρ = ⟨([], 0, 0, 0), [.s t.dat, .s (frD s), .s x, .s y, .s (vL t.h (t.gap s v)), s5, .no, .no]⟩) ?_ ?_
  · refine wp_for (fun i ρ => t.Fit s v w i ∧ ∃ s5, ρ = ⟨([], 0, 0, 0), [.s t.dat, .s (frD s), .s x, .s y, .s (vL t.h (t.gap s v)), s5, .no, .no]⟩) ⟨fun k hk => absurd hk (Nat.not_lt_zero _), _, rfl⟩ ?_ ?_
    · rintro i ρ hi ⟨h1, s5, rfl⟩
      have hz : (w i).num = 0 ↔ w i = 0 := Rat.num_eq_zero
      by_cases hc : t.FitAt s v w i
      · have c1 : ¬ t.gap s v i < 0 := Rat.not_lt.mpr hc.1
        have c2 : ¬ w i < 0 := Rat.not_lt.mpr hc.2.1
        have hn := Tk.Fit.succ h1 hc
        by_cases c3 : 0 < t.gap s v i
        · have c4 : w i = 0 := by
            have h4 : ¬ 0 < w i := fun z => hc.2.2 ⟨z, c3⟩
            have := hc.2.1
            grind
          simp [vL_ix hi, ix_its hy hi, c1, c2, c3, c4]
          exact wp_some ⟨hn, _, rfl⟩
        · simp [vL_ix hi, ix_its hy hi, c1, c2, c3]
          exact wp_some ⟨hn, _, rfl⟩
      · have no : ¬ t.Shows s v w := fun z => hc (z.1 i hi)
        by_cases c1 : t.gap s v i < 0
        · simp [vL_ix hi, ix_its hy hi, c1]
          exact wp_some (tells_f no)
        · by_cases c2 : w i < 0
          · simp [vL_ix hi, ix_its hy hi, c1, c2]
            exact wp_some (tells_f no)
          · have c3 : 0 < w i ∧ 0 < t.gap s v i := Classical.byContradiction fun z => hc ⟨Rat.not_lt.mp c1, Rat.not_lt.mp c2, z⟩
            have c4 : ¬ w i = 0 := fun z => by rw [z] at c3; exact absurd c3.1 (by decide)
            simp [vL_ix hi, ix_its hy hi, c1, c2, c3.2, c4]
            exact wp_some (tells_f no)
    · rintro ρ h
      exact h
  · rintro ρ ⟨h1, s5, rfl⟩
    simp [hsl, len_its hx, d_range (show t.n ≤ 1000000 by omega)]
    refine wp_thn (fun ρ => (∀ j, j < t.n → t.slope s v j = t.Aw w j) ∧ ∃ l, ρ = ⟨([], 0, 0, 0), l⟩) ?_ ?_
    · refine wp_for (fun i ρ => (∀ j, j < i → t.slope s v j = t.Aw w j) ∧ ∃ s5, ρ = ⟨([], 0, 0, 0), [.s t.dat, .s (frD s), .s x, .s y, .s (vL t.h (t.gap s v)), s5, .s (vL t.n (t.slope s v)), .no]⟩) ⟨fun k hk => absurd hk (Nat.not_lt_zero _), _, rfl⟩ ?_ ?_
      · rintro j ρ hj ⟨h2, s5, rfl⟩
        simp [vL_ix hj, lst_its (show t.h ≤ 1000000 by omega)]
        rw [lcGo_vec (φ := fun i => .int (t.A i j))]
        · simp [F_law_col ok hj hy hw hq, ne_frD]
          by_cases e : t.slope s v j = t.Aw w j
          · simp [e]
            exact wp_some ⟨fun k hk => by
              by_cases e2 : k = j
              · subst e2; exact e
              · exact h2 k (by omega), _, rfl⟩
          · simp [e]
            exact wp_some (tells_f fun z => e (z.2 j hj))
        · intro i hi
          refine ⟨⟨([], 0, 0, 0), [.s t.dat, .s (frD s), .s x, .s y, .s (vL t.h (t.gap s v)), .s (.int j), .s (vL t.n (t.slope s v)), .s (t.rowD i)]⟩, ?_, rfl, ?_⟩
          · simp [Ev.wipe, wipeS]
          · simp [ix_its (its_iT (v := t.A i)) hj]
      · rintro ρ ⟨h2, s5, rfl⟩
        exact ⟨h2, _, rfl⟩
    · rintro ρ ⟨h2, l, rfl⟩
      simp
      exact wp_some (tells_t ⟨h1, h2⟩)
theorem F_law_bars_ok (ok : t.Ok) (hs : Sz p s) (hp : p ≤ 1000000) (hy : Its y t.h fun i => frD (w i)) (hw : ∀ i, i < t.h → Sz q (w i)) (hq : q ≤ 1000000) : ∃ d, F_law_bars [t.dat, frD s, y] = some d ∧ Tells (t.Bars s w) d := by
  have hn := ok.n5
  have hh := ok.h8
  refine run_ret rfl ?_
  unfold g_law_bars
  simp [show dItems y = _ from hy, lst_its (show t.h ≤ 1000000 by omega)]
  rw [lcGo_filter (φ := fun i => frD (w i)) (t := fun i => decide (w i < 0))]
  · simp only [bnd_some, e_ret, e_wr]
    rw [d_neNil (k := 1) (fun d hd => by obtain ⟨i, _, rfl⟩ := List.mem_map.mp hd; exact sh_frD _) (by decide)]
    by_cases h : ∃ i, i < t.h ∧ w i < 0
    · have h2 : (((List.range t.h).filter fun i => decide (w i < 0)).map fun i => frD (w i)).isEmpty = false := by
        obtain ⟨i, hi, hn⟩ := h
        cases e : ((List.range t.h).filter fun i => decide (w i < 0)) with
        | nil =>
          have := List.filter_eq_nil_iff.mp e i (List.mem_range.mpr hi)
          rw [decide_eq_true hn] at this
          exact absurd rfl this
        | cons a l => rfl
      rw [h2]
      simp
      exact wp_some (tells_f fun z => by
        obtain ⟨i, hi, hn⟩ := h
        exact absurd hn (Rat.not_lt.mpr (z.1 i hi)))
    · have h1 : ∀ i, i < t.h → 0 ≤ w i := fun i hi => Rat.not_lt.mp fun z => h ⟨i, hi, z⟩
      have h2 : (List.range t.h).filter (fun i => decide (w i < 0)) = [] := List.filter_eq_nil_iff.mpr fun i hi => by
        have := h1 i (List.mem_range.mp hi)
        simp [Rat.not_lt.mpr this]
      rw [h2]
      simp [d_range (show t.n ≤ 1000000 by omega)]
      refine wp_thn (fun ρ => (∀ j, j < t.n → t.Aw w j = 0) ∧ ∃ s3, ρ = ⟨([], 0, 0, 0), [.s t.dat, .s (frD s), .s y, s3, .no, .no, .no, .no]⟩) ?_ ?_
      · refine wp_for (fun i ρ => (∀ j, j < i → t.Aw w j = 0) ∧ ∃ s3, ρ = ⟨([], 0, 0, 0), [.s t.dat, .s (frD s), .s y, s3, .no, .no, .no, .no]⟩) ⟨fun k hk => absurd hk (Nat.not_lt_zero _), _, rfl⟩ ?_ ?_
        · rintro j ρ hj ⟨h2, s3, rfl⟩
          simp [lst_its (show t.h ≤ 1000000 by omega)]
          rw [lcGo_vec (φ := fun i => .int (t.A i j))]
          · simp [F_law_col ok hj hy hw hq]
            by_cases e : t.Aw w j = 0
            · simp [e]
              exact wp_some ⟨fun k hk => by
                by_cases e2 : k = j
                · subst e2; exact e
                · exact h2 k (by omega), _, rfl⟩
            · simp [e]
              exact wp_some (tells_f fun z => e (z.2.1 j hj))
          · intro i hi
            refine ⟨⟨([], 0, 0, 0), [.s t.dat, .s (frD s), .s y, .s (.int j), .no, .no, .no, .s (t.rowD i)]⟩, ?_, rfl, ?_⟩
            · simp [Ev.wipe, wipeS]
            · simp [ix_its (its_iT (v := t.A i)) hj]
        · rintro ρ h
          exact h
      · rintro ρ ⟨h3, s3, rfl⟩
        simp [len_its hy, d_range (show t.h ≤ 1000000 by omega)]
        have zr : ∀ j, j < t.h → Sz (q + p + 21) (t.right s j * w j) := fun j hj => ((Tk.right_sz ok hs hj).mul (hw j hj)).mono (by omega)
        have zrs : ∀ i, i ≤ t.h → Sz (8 * (q + p + 22) + 1) (sumN i fun j => t.right s j * w j) := fun i hi => (sz_sum fun j hj => zr j (by omega)).mono (by
          have : i * (q + p + 21 + 1) ≤ 8 * (q + p + 21 + 1) := Nat.mul_le_mul_right _ (by omega)
          omega)
        refine wp_thn (fun ρ => ∃ s3 l, ρ = ⟨([], 0, 0, 0), .s t.dat :: .s (frD s) :: .s y :: s3 :: .s (frD (t.lim s w)) :: l⟩) ?_ ?_
        · refine wp_for (fun i ρ => ∃ s3 s5, ρ = ⟨([], 0, 0, 0), [.s t.dat, .s (frD s), .s y, s3, .s (frD (sumN i fun j => t.right s j * w j)), s5, .no, .no]⟩) ⟨_, _, rfl⟩ ?_ ?_
          · rintro i ρ hi ⟨s3, s5, rfl⟩
            have e1 := F_law_times_eq (sz10 (ok.e i hi)) hs (by omega)
            have e2 := F_law_plus_eq (sz10 (ok.b i hi)) ((sz10 (ok.e i hi)).mul hs) (by omega)
            rw [frD_int] at e1 e2
            have e5 : F_law_plus [.tuple [.int (t.b i), .int 1], frD ((t.e i : Rat) * s)] = some (frD (t.right s i)) := e2
            have f1 := F_law_times_eq (Tk.right_sz ok hs hi) (hw i hi) (by omega)
            have f2 := F_law_plus_eq (zrs i (by omega)) (zr i hi) (by omega)
            simp [ix_its its_rows hi, ix_its hy hi, e1, e5, f1, f2]
            exact wp_some ⟨_, _, rfl⟩
          · rintro ρ ⟨s3, s5, rfl⟩
            exact ⟨_, _, rfl⟩
        · rintro ρ ⟨s3, l, rfl⟩
          simp
          refine wp_some ⟨_, rfl, ?_⟩
          rw [decide_eq_true_eq]
          exact ⟨fun z => ⟨h1, h3, z⟩, fun z => z.2.2⟩
  · intro i hi
    refine ⟨⟨([], 0, 0, 0), [.s t.dat, .s (frD s), .s y, .no, .no, .no, .s (frD (w i)), .no]⟩, ?_, ?_, ?_⟩
    · simp [Ev.wipe, wipeS]
    · simp
    · intro _
      simp
/-! ### alike, is -/
theorem F_law_is_eq {a b : Bool} : F_law_is [.bool a, .bool b] = some (.bool (a == b)) := by
  refine run_of (w := ([], 0, 0, 0)) rfl ?_
  unfold g_law_is
  simp
theorem tells_same {P : Prop} {d e : D} (h1 : Tells P d) (h2 : Tells P e) : F_law_is [d, e] = some (.bool true) := by
  obtain ⟨a, rfl, ha⟩ := h1
  obtain ⟨b, rfl, hb⟩ := h2
  rw [F_law_is_eq]
  have : a = b := by
    cases a <;> cases b <;> simp_all
  subst this
  cases a <;> rfl
theorem alike_int {k : Nat} {i : Int} : F_law_alike_ (k + 1) [.int i, .int i] = some (.bool true) := by
  refine run_of (w := ([], 0, 0, 0)) rfl ?_
  unfold g_law_alike
  simp [dIsN]
theorem alike_frD {q : Rat} : F_law_alike [frD q, frD q] = some (.bool true) := by
  show F_law_alike_ 8 [frD q, frD q] = _
  refine run_of (w := ([], 0, 0, 0)) rfl ?_
  unfold g_law_alike frD
  simp [d_range (show 2 ≤ 1000000 by decide)]
  have e := d_range (n := 2) (by decide)
  simp at e
  rw [e]
  simp
  rw [lcGo_filter (φ := fun i => .int (i : Nat)) (t := fun _ => false)]
  · simp
    rw [d_eqNil (k := 0) (fun d hd => by cases hd) (by decide)]
    rfl
  · intro i hi
    refine ⟨⟨([], 0, 0, 0), [.s (frD q), .s (frD q), .s (.int (i : Nat))]⟩, ?_, ?_, ?_⟩
    · simp [Ev.wipe, wipeS, frD]
    · have h : i = 0 ∨ i = 1 := by omega
      rcases h with rfl | rfl
      · simp [alike_int]
      · simp [alike_int]
    · intro z
      cases z
end
end PX

namespace PX
open PySem L2 DL PG
theorem Sz.inv {n : Nat} {q : Rat} (h : Sz n q) (h0 : q ≠ 0) : Sz n q⁻¹ := by
  rw [Rat.inv_def]
  exact Sz.divInt h.nd h.1 (num_ne h0)
theorem F_law_fr_inv {q : Rat} (h0 : q ≠ 0) : F_law_fr [.int (q.den : Nat), .int q.num] = some (frD q⁻¹) := by
  rw [F_law_fr_eq (num_ne h0), Rat.inv_def]
theorem swap2_eq {T : Tab} {a p : Nat} {r : Nat → Rat} : updT (updT T p (T a)) a r = updT (swapR T a p) a r := by
  funext i
  unfold updT swapR
  by_cases h1 : i = a
  · rw [if_pos h1, if_pos h1]
  · rw [if_neg h1, if_neg h1]
    by_cases h2 : i = p
    · rw [if_pos h2, if_pos h2]
    · rw [if_neg h2, if_neg h2, if_neg h1]
theorem swapR_at {T : Tab} {a p : Nat} : swapR T a p a = T p := by
  unfold swapR
  by_cases h : a = p
  · subst h; simp
  · simp [h]
/-- what the law's own solver promises -/
def LSolvedG (n c : Nat) (R : Tab) (S : Nat → Rat) (d : D) : Prop :=
  (d = .none ∧ ∃ z : Nat → Rat, (∃ j, j < n ∧ z j ≠ 0) ∧ ∀ i, i < n → sumN n (fun j => R i j * z j) = 0) ∨
  ∃ X : Nat → Rat, d = vL n X ∧ (∀ x : Nat → Rat, (∀ i, i < n → sumN n (fun j => R i j * x j) = S i) ↔ ∀ i, i < n → x i = X i) ∧ ∀ i, i < n → Sz c (X i)
theorem F_law_solved_gen {n : Nat} {SI : Nat → Tab → Prop} {β : Nat → Nat} {lot rights : D} {r : Nat → D} {R : Nat → Nat → Int} {S : Nat → Int} (hr : Its lot n r) (hri : ∀ i, i < n → Its (r i) n fun j => .int (R i j)) (hs : Its rights n fun i => .int (S i))
    (hn : n ≤ 1000) (I : SzI n (n + 1) SI β) (h00 : SI 0 (fun i j => if j < n then (R i j : Rat) else (S i : Rat))) : ∃ d, F_law_solved [lot, rights] = some d ∧ LSolvedG n (β n) (fun i j => (R i j : Rat)) (fun i => (S i : Rat)) d := by
  refine run_ret rfl ?_
  unfold g_law_solved
  simp [len_its hr, d_range (show n ≤ 1000000 by omega), lst_its (show n ≤ 1000000 by omega)]
  rw [lcGo_vec (φ := fun i => vL (n + 1) fun j => if j < n then (R i j : Rat) else (S i : Rat))]
  · simp [d_range (show n ≤ 1000000 by omega)]
    have hw : n ≤ n + 1 := Nat.le_add_right ..
    have hwl : n + 1 ≤ 1000000 := by omega
    refine wp_thn (fun ρ => ∃ T s4 s5 s6 s7 s8, GJ n (n + 1) SI (fun i j => if j < n then (R i j : Rat) else (S i : Rat)) n T ∧ ρ = ⟨([], 0, 0, 0), [.s lot, .s rights, .s (.int n), .o (tabD n (n + 1) T), s4, s5, s6, s7, s8, .no, .no, .no]⟩) ?_ ?_
    · refine wp_for (fun a ρ => ∃ T s4 s5 s6 s7 s8, GJ n (n + 1) SI (fun i j => if j < n then (R i j : Rat) else (S i : Rat)) a T ∧ ρ = ⟨([], 0, 0, 0), [.s lot, .s rights, .s (.int n), .o (tabD n (n + 1) T), s4, s5, s6, s7, s8, .no, .no, .no]⟩) ?_ ?_ ?_
      · refine ⟨_, _, _, _, _, _, ⟨fun i j _ h => absurd h (Nat.not_lt_zero _), fun z => Iff.rfl, h00⟩, rfl⟩
      · rintro a ρ ha ⟨T, s4, s5, s6, s7, s8, G, rfl⟩
        have hba := I.small a ha
        simp [d_range2 (show n ≤ 1000000 by omega) (show a ≤ 1000000 by omega), lst_its (show n - a ≤ 1000000 by omega)]
        rw [lcGo_filter (φ := fun i => .int ((a + i : Nat) : Int)) (t := fun i => !decide ((T (a + i) a).num = 0))]
        · rw [show (List.range (n - a)).filter (fun i => !decide ((T (a + i) a).num = 0)) = spots T n a from rfl]
          simp [d_eqNil (k := 0) (l := (spots T n a).map fun (i : Nat) => (PyData.int ((a : Int) + (i : Int)) : D)) (fun d hd => by obtain ⟨i, _, rfl⟩ := List.mem_map.mp hd; exact sh_int _) (by decide)]
          cases hsp : spots T n a with
          | nil =>
            simp
            refine wp_some ?_
            obtain ⟨z, z1, z2, z3⟩ := no_pivot ha hw G.u (spots_nil hsp)
            exact .inl ⟨rfl, z, ⟨a, ha, z1⟩, ker_null (m := 1) (S := fun _ i => (S i : Rat)) z2 ((G.k z).mp z3)⟩
          | cons k l =>
            obtain ⟨hp, h0⟩ := spots_cons hsp
            simp
            have haw : a < n + 1 := by omega
            obtain ⟨p, ep⟩ : ∃ p : Nat, p = a + k := ⟨_, rfl⟩
            have ep' : (a : Int) + (k : Int) = (p : Int) := by rw [ep]; rfl
            rw [← ep] at hp h0
            have hap : a ≤ p := by omega
            simp only [List.map_cons, ep', Int.natCast_add]
            generalize List.map (fun (i : Nat) => (PyData.int ((a : Int) + (i : Int)) : D)) l = tl
            simp [tab_ix hp, tab_ix ha, tab_st hp]
            have G' := G.step I ha hap hp h0
            have hs1 := swap_sz ha hp (I.sz a T G.s)
            have hTp : ∀ j, j < n + 1 → Sz (β a) (T p j) := fun j hj => I.sz a T G.s p j hp hj
            have h0' : swapR T a p a a ≠ 0 := by rw [swapR_at]; exact h0
            have e3 : stepR T a p = elimR (normR (swapR T a p) a) a := rfl
            have en : updT (updT T p (T a)) a (fun j => T p j * (T p a)⁻¹) = normR (swapR T a p) a := by
              rw [swap2_eq, ← norm_eq, swapR_at]
              rfl
            rw [e3] at G'
            simp [lst_its hwl]
            rw [lcGo_vec (φ := fun j => frD (T p j * (T p a)⁻¹))]
            · simp only [bnd_some]
              rw [show (PyData.list (vecF (n + 1) fun j => frD (T p j * (T p a)⁻¹)) : D) = vL (n + 1) (fun j => T p j * (T p a)⁻¹) from rfl]
              simp [tab_st ha, en, d_range (show n ≤ 1000000 by omega)]
              have hr2 : ∀ i, i ≠ a → normR (swapR T a p) a i = swapR T a p i := fun i hi => by
                funext j
                unfold normR
                rw [if_neg hi]
              have ha2 : ∀ j, j < n + 1 → Sz (β a + β a) (normR (swapR T a p) a a j) := fun j hj => norm_sz ha haw h0' hs1 a j ha hj
              have hla : (fun j => T p j * (T p a)⁻¹) = normR (swapR T a p) a a := by
                rw [← en]
                unfold updT
                rw [if_pos rfl]
              rw [hla]
              have hend : ∀ s6 s7 s8, ∃ T', GJ n (n + 1) SI (fun i j => if j < n then (R i j : Rat) else (S i : Rat)) (a + 1) T' ∧ ∃ x x_1 x_2 x_3 x_4, (⟨([], 0, 0, 0), [.s lot, .s rights, .s (.int n), .o (tabD n (n + 1) (elimK (normR (swapR T a p) a) a n)), .s (.int a), .s (.list (.int p :: tl)), s6, s7, s8, .no, .no, .no]⟩ : Ev) = ⟨([], 0, 0, 0), [.s lot, .s rights, .s (.int n), .o (tabD n (n + 1) T'), x, x_1, x_2, x_3, x_4, .no, .no, .no]⟩ := fun s6 s7 s8 => by
                rw [elimK_n ha]
                exact ⟨_, G', _, _, _, _, _, rfl⟩
              generalize normR (swapR T a p) a = T2 at *
              generalize swapR T a p = T1 at *
              refine wp_for (fun k ρ => ∃ s7 s8, ρ = ⟨([], 0, 0, 0), [.s lot, .s rights, .s (.int n), .o (tabD n (n + 1) (elimK T2 a k)), .s (.int a), .s (.list (.int p :: tl)), .s (vL (n + 1) (T2 a)), s7, s8, .no, .no, .no]⟩) ⟨s7, s8, by rw [elimK_0]⟩ ?_ ?_
              · rintro k ρ hk ⟨t7, t8, rfl⟩
                by_cases hka : k = a
                · simp [hka]
                  rw [show elimK T2 a a = elimK T2 a (a + 1) from elimK_skip (.inl rfl)]
                  exact wp_some ⟨_, _, rfl⟩
                · have hka' : ¬ ((k : Int) = (a : Int)) := by omega
                  have hu : ∀ j, j < n + 1 → Sz (β a) (T2 k j) := fun j hj => by rw [hr2 k hka]; exact hs1 k j hk hj
                  have er : dRange (.int 0) (.int ((n : Int) + 1)) = some (vecF (n + 1) fun i => .int (i : Nat)) := d_range (n := n + 1) hwl
                  simp [hka', tab_ix hk, elimK_k, vL_ix haw, er, lst_its hwl]
                  rw [lcGo_vec (φ := fun j => frD (T2 k j - T2 k a * T2 a j))]
                  · simp only [bnd_some]
                    rw [show (PyData.list (vecF (n + 1) fun j => frD (T2 k j - T2 k a * T2 a j)) : D) = vL (n + 1) (fun j => T2 k j - T2 k a * T2 a j) from rfl]
                    simp [tab_st hk, elimK_set hka]
                    exact wp_some ⟨_, _, rfl⟩
                  · intro j hj
                    have f1 := F_law_times_eq (hu a haw).neg (ha2 j hj) (by omega)
                    have f2 := F_law_plus_eq (hu j hj) ((hu a haw).neg.mul (ha2 j hj)) (by omega)
                    have f3 : T2 k j + -T2 k a * T2 a j = T2 k j - T2 k a * T2 a j := by grind
                    rw [f3] at f2
                    rw [frD_neg] at f1
                    refine ⟨⟨([], 0, 0, 0), [.s lot, .s rights, .s (.int n), .o (tabD n (n + 1) (elimK T2 a k)), .s (.int a), .s (.list (.int p :: tl)), .s (vL (n + 1) (T2 a)), .s (.int k), .s (.tuple [.int (-(T2 k a).num), .int ((T2 k a).den : Nat)]), .no, .s (.int j), .no]⟩, ?_, rfl, ?_⟩
                    · simp [Ev.wipe, wipeS]
                    · simp [tab_ix hk, elimK_k, vL_ix hj, f1, f2]
              · rintro ρ ⟨t7, t8, rfl⟩
                exact hend _ t7 t8
            · intro j hj
              have f1 := F_law_fr_inv h0
              have f2 := F_law_times_eq (hTp j hj) ((hTp a haw).inv h0) (by omega)
              refine ⟨⟨([], 0, 0, 0), [.s lot, .s rights, .s (.int n), .o (tabD n (n + 1) (updT T p (T a))), .s (.int a), .s (.list (.int p :: tl)), .s (vL (n + 1) (T p)), s7, s8, .s (frD (T p j)), .no, .no]⟩, ?_, rfl, ?_⟩
              · simp [Ev.wipe, wipeS]
              · simp [vL_ix haw, f1, f2]
        · intro i hi
          refine ⟨⟨([], 0, 0, 0), [.s lot, .s rights, .s (.int n), .o (tabD n (n + 1) T), .s (.int a), s5, s6, .s (.int ((a + i : Nat) : Int)), s8, .no, .no, .no]⟩, ?_, ?_, ?_⟩
          · simp [Ev.wipe, wipeS]
          · have h1 : a + i < n := by omega
            have h2 : a < n + 1 := by omega
            have e := tab_ix (T := T) (w := n + 1) h1
            rw [Int.natCast_add] at e
            simp [e, vL_ix h2]
          · simp
      · rintro ρ h
        exact h
    · rintro ρ ⟨T, s4, s5, s6, s7, s8, G, rfl⟩
      simp
      rw [show tabD n (n + 1) T = vecF n fun i => vL (n + 1) (T i) from rfl, lst_its (show n ≤ 1000000 by omega)]
      simp
      rw [lcGo_vec (φ := fun i => frD (T i n))]
      · simp
        refine wp_some (.inr ⟨fun i => T i n, rfl, fun x => ?_, fun i hi => I.sz n T G.s i n hi (by omega)⟩)
        rw [← ker_sol (m := 1) (s := 0) (S := fun _ i => (S i : Rat)) (by decide), ← G.k]
        exact unit_sol (m := 1) (s := 0) (by decide) G.u x
      · intro i hi
        have e : dIx (vL (n + 1) (T i)) (.int (n : Int)) = some (frD (T i n)) := vL_ix (by omega)
        refine ⟨⟨([], 0, 0, 0), [.s lot, .s rights, .s (.int n), .o (tabD n (n + 1) T), s4, s5, s6, s7, s8, .no, .no, .s (vL (n + 1) (T i))]⟩, ?_, rfl, ?_⟩
        · simp [Ev.wipe, wipeS, tabD]
        · simp [e]
  · intro i hi
    have h2 : dItems (r i) = _ := hri i hi
    refine ⟨⟨([], 0, 0, 0), [.s lot, .s rights, .s (.int n), .no, .s (.int i), .no, .no, .no, .no, .no, .no, .no]⟩, ?_, rfl, ?_⟩
    · simp [Ev.wipe, wipeS]
    · have ec : dCat (.list (vecF n fun j => (PyData.int (R i j) : D))) (.list [.int (S i)]) = some (vecF (n + 1) fun j => .int (if j < n then R i j else S i)) := by
        unfold dCat
        simp only
        rw [if_pos (by simp; omega), vecF_succ]
        congr 2
        · exact vecF_congr fun j hj => by rw [if_pos hj]
        · rw [if_neg (by omega)]
      simp [ix_its hr hi, h2, ix_its hs hi, ec, lst_its (show n + 1 ≤ 1000000 by omega)]
      rw [lcGo_vec (φ := fun j => frD ((if j < n then R i j else S i : Int) : Rat))]
      · simp
        unfold vL
        congr 1
        refine vecF_congr fun j _ => ?_
        by_cases hj : j < n
        · simp only [if_pos hj]
        · simp only [if_neg hj]
      · intro j hj
        refine ⟨⟨([], 0, 0, 0), [.s lot, .s rights, .s (.int n), .no, .s (.int i), .no, .no, .no, .no, .s (.int (if j < n then R i j else S i)), .no, .no]⟩, ?_, rfl, ?_⟩
        · simp [Ev.wipe, wipeS]
        · simp
          rfl
abbrev LSolvedP (n b : Nat) (R : Tab) (S : Nat → Rat) (d : D) : Prop := LSolvedG n (bd b n) R S d
theorem F_law_solved_ok {n b : Nat} {lot rights : D} {r : Nat → D} {R : Nat → Nat → Int} {S : Nat → Int} (hr : Its lot n r) (hri : ∀ i, i < n → Its (r i) n fun j => .int (R i j)) (hs : Its rights n fun i => .int (S i))
    (hn : n ≤ 1000) (h1 : 1 ≤ b) (hR : ∀ i j, i < n → j < n → (R i j).natAbs < 2 ^ b) (hS : ∀ i, i < n → (S i).natAbs < 2 ^ b) (hb : bd b n < 134000000) : ∃ d, F_law_solved [lot, rights] = some d ∧ LSolvedP n b (fun i j => (R i j : Rat)) (fun i => (S i : Rat)) d :=
  F_law_solved_gen hr hri hs hn (szI_bd (Nat.le_add_right ..) hb) fun i j hi hj => by
    show Sz b (if j < n then (R i j : Rat) else (S i : Rat))
    by_cases hjn : j < n
    · rw [if_pos hjn]; exact Sz.int (hR i j hi hjn) h1
    · rw [if_neg hjn]; exact Sz.int (hS i hi) h1
end PX

namespace PX
open PySem L2 DL PG
section
variable {ρ : Ev} {i j : Nat} {f : MM D}
@[simp] theorem rg1 {w : DL.Row} : rowGet w 1 = some w.2.1 := (rfl)
@[simp] theorem rg2 {w : DL.Row} : rowGet w 2 = some w.2.2.1 := (rfl)
@[simp] theorem rg3 {w : DL.Row} : rowGet w 3 = some w.2.2.2 := (rfl)
@[simp] theorem rs1 {w : DL.Row} {v : Int} : rowSet w v 1 = some (w.1, v, w.2.2.1, w.2.2.2) := (rfl)
@[simp] theorem rs2 {w : DL.Row} {v : Int} : rowSet w v 2 = some (w.1, w.2.1, v, w.2.2.2) := (rfl)
@[simp] theorem rs3 {w : DL.Row} {v : Int} : rowSet w v 3 = some (w.1, w.2.1, w.2.2.1, v) := (rfl)
theorem e_rowI {v : Int} (h : ρ.get i = .row) (hv : rowGet ρ.row j = some v) : mRowI i j ρ = some (.int v, ρ.row) := by
  unfold mRowI
  rw [h]
  simp only
  rw [hv]
theorem e_rowLen (h : ρ.get i = .row) : mRowLen i ρ = some (.int ρ.row.1.length, ρ.row) := by
  unfold mRowLen
  rw [h]
theorem e_rowCell {k v : Int} {r : DL.Row} (h : ρ.get i = .row) (hf : f ρ = some (.int k, r)) (hr : r.1 = ρ.row.1) (hv : L2.atI r.1 k = some v) : mRowCell i f ρ = some (.int v, r) := by
  unfold mRowCell
  rw [h]
  simp only
  rw [hf]
  simp only
  rw [if_pos hr, hv]
theorem e_rowSet {v : Int} {r r' : DL.Row} (h : ρ.get i = .row) (hf : f ρ = some (.int v, r)) (hr : rowSet r v j = some r') : gRowSet i j f ρ = some (.nx (ρ.wr r')) := by
  unfold gRowSet
  rw [hf]
  simp only
  rw [h, hr]
@[simp] theorem e_consRow {fl : MM (List Sl)} (h : ρ.get i = .row) : mConsRow i fl ρ = bnd (fl ρ) fun l r => some (Sl.row :: l, r) := by
  unfold mConsRow
  rw [h]
  simp only
  rw [e_bind]
  rfl
end
theorem def_of {g : MS} {n N : Nat} {as : List Sl} {w w' : DL.Row} {d : D} (hl : as.length = n) (h : g ⟨w, as ++ List.replicate (N - n) .no⟩ = some (.ret d w')) : runDef g n N as w = some (d, w') := by
  unfold runDef
  rw [if_pos hl, h]
theorem d_pow18 : dPow (.int 10) (.int 18) = some (.int (10 ^ 18)) := by
  unfold dPow
  simp only
  rw [if_pos (by decide)]
  rfl
theorem F_law_taken_eq {w : DL.Row} {m : Int} (hw : RowOk w) (hm : 0 < m) : F_law_taken [.row, .s (.int m)] w = some (.int (takenR w m).1, (takenR w m).2) := by
  obtain ⟨h1, h2, h3, h4⟩ := hw
  have hm0 : m ≠ 0 := by omega
  refine def_of rfl ?_
  obtain ⟨sc, pl, sd, rs⟩ := w
  simp only at h1 h2 h3 h4
  have hmul : mulOk sd 48271 = true := mulOk_of (m := 31) (n := 16) (by have : (2 : Nat) ^ 31 = 2147483648 := rfl; omega) (by decide) (by decide)
  unfold g_law_taken takenR
  simp only [List.replicate, List.cons_append, List.nil_append]
  generalize hc : sc.getD pl.toNat 0 = c
  by_cases c1 : rs > 0
  · simp [e_rowI (j := 3) (v := rs), c1, hm0, hm]
    rw [e_rowSet (r := (sc, pl, sd, rs)) (v := rs.fdiv m) rfl (by simp [e_rowI (j := 3) (v := rs), hm0]) rfl]
    simp
  · have c1' : ¬ 0 < rs := c1
    simp [e_rowI (j := 3) (v := rs), c1']
    rw [e_rowSet (r := (sc, pl, sd, rs)) (v := pl + 1) rfl (by simp [e_rowI (j := 1) (v := pl)]) rfl]
    by_cases c2 : pl + 1 > (sc.length : Int)
    · have c2' : (sc.length : Int) < pl + 1 := c2
      simp [e_rowI (j := 1) (v := pl + 1), e_rowLen, c2']
      rw [e_rowSet (r := (sc, pl + 1, sd, rs)) (v := (sd * 48271 + 11).fmod 2147483647) rfl (by simp [e_rowI (j := 2) (v := sd), hmul]) rfl]
      simp [e_rowI (j := 2) (v := (sd * 48271 + 11).fmod 2147483647), hm0]
    · have c2' : ¬ (sc.length : Int) < pl + 1 := c2
      simp [e_rowI (j := 1) (v := pl + 1), e_rowLen, c2']
      have hlt : pl.toNat < sc.length := by omega
      have hat : L2.atI sc (pl + 1 - 1) = some c := by
        rw [← hc, show pl + 1 - 1 = ((pl.toNat : Nat) : Int) by omega, atI_nat hlt, List.getD_eq_getElem?_getD, List.getElem?_eq_getElem hlt]
        rfl
      rw [e_rowCell (r := (sc, pl + 1, sd, rs)) (k := pl + 1 - 1) (v := c) rfl (by simp [e_rowI (j := 1) (v := pl + 1)]) rfl hat]
      simp
      rw [e_rowSet (r := (sc, pl + 1, sd, rs)) (v := (sd * 48271 + c + 11).fmod 2147483647) rfl (by simp [e_rowI (j := 2) (v := sd), hmul]) rfl]
      have c1'' : ¬ rs > 0 := c1
      by_cases c3 : c ≥ 10 ^ 18
      · have c3'' : (1000000000000000000 : Int) ≤ c := by simpa using c3
        simp [d_pow18]
        rw [decide_eq_true c3'']
        simp
        rw [e_rowSet (r := (sc, pl + 1, (sd * 48271 + c + 11).fmod 2147483647, rs)) (v := c.fdiv m) rfl (by simp [hm0]) rfl]
        simp [hm0, c3'']
      · have c3'' : ¬ (1000000000000000000 : Int) ≤ c := by simpa using c3
        simp [d_pow18]
        rw [decide_eq_false c3'']
        simp [hm0, c3'']
end PX

namespace PX
open PySem L2 DL PG
/-- a row function's outcome -/
def RetW (P : D → DL.Row → Prop) : Oc → Prop
  | .ret d w => P d w
  | .nx ρ => P .none ρ.row
  | _ => False
theorem def_wp {g : MS} {n N : Nat} {as : List Sl} {w : DL.Row} {P : D → DL.Row → Prop} (hl : as.length = n) (h : wp (g ⟨w, as ++ List.replicate (N - n) .no⟩) (RetW P)) : ∃ d w', runDef g n N as w = some (d, w') ∧ P d w' := by
  obtain ⟨oc, e, h⟩ := h
  unfold runDef
  rw [if_pos hl, e]
  cases oc with
  | ret d w' => exact ⟨_, _, rfl, h⟩
  | nx ρ => exact ⟨_, _, rfl, h⟩
  | bk ρ => exact h.elim
  | ct ρ => exact h.elim
theorem taken_ok {w : DL.Row} {m : Int} (hw : RowOk w) (hm : 0 < m) : ∃ (k : Nat) (w' : DL.Row), F_law_taken [.row, .s (.int m)] w = some (.int (k : Nat), w') ∧ RowOk w' ∧ (k : Int) < m := by
  obtain ⟨h1, h2⟩ := takenR_range w hm
  refine ⟨(takenR w m).1.toNat, (takenR w m).2, ?_, takenR_ok hw, by omega⟩
  rw [F_law_taken_eq hw hm, Int.toNat_of_nonneg h1]
theorem number_ok {w : DL.Row} {z : Nat} (hw : RowOk w) (hz : z ≤ 1000) : ∃ (k : Int) (w' : DL.Row), F_law_number [.row, .s (.int (z : Nat))] w = some (.int k, w') ∧ RowOk w' ∧ k.natAbs ≤ z := by
  obtain ⟨k, w', e, hw', hk⟩ := taken_ok (m := 2 * (z : Int) + 1) hw (by omega)
  have hm : mulOk 2 (z : Int) = true := mulOk_of (m := 2) (n := 10) (by decide) (by have : (2 : Nat) ^ 10 = 1024 := rfl; omega) (by decide)
  refine ⟨(k : Int) - z, w', ?_, hw', by omega⟩
  refine def_of rfl ?_
  unfold g_law_number
  simp [hm, e]
/-! ### sums of ints -/
def isum (n : Nat) (f : Nat → Int) : Int := (vecF n f).sum
theorem isum_succ {n : Nat} {f : Nat → Int} : isum (n + 1) f = isum n f + f n := by
  unfold isum
  rw [vecF_succ, List.sum_append]
  simp
theorem isum_cast {n : Nat} {f : Nat → Int} : ((isum n f : Int) : Rat) = sumN n fun i => (f i : Rat) := by
  induction n with
  | zero => rfl
  | succ n ih =>
    rw [isum_succ, Rat.intCast_add, ih]
    rfl
theorem isum_le {n b : Nat} {f : Nat → Int} (h : ∀ i, i < n → (f i).natAbs ≤ b) : (isum n f).natAbs ≤ n * b := by
  induction n with
  | zero => simp [isum]
  | succ n ih =>
    rw [isum_succ]
    have h1 := ih fun i hi => h i (by omega)
    have h2 := h n (by omega)
    have h3 := Int.natAbs_add_le (isum n f) (f n)
    rw [Nat.succ_mul]
    omega
theorem isum_congr {n : Nat} {f g : Nat → Int} (h : ∀ i, i < n → f i = g i) : isum n f = isum n g := by
  unfold isum
  rw [vecF_congr h]
theorem toInts_vec {n : Nat} {t : Nat → Int} : toInts (vecF n fun i => .int (t i)) = some (vecF n t) := by
  unfold vecF
  generalize List.range n = l
  induction l with
  | nil => rfl
  | cons i l ih =>
    rw [List.map_cons, List.map_cons]
    unfold toInts
    rw [ih]
theorem d_sum {n : Nat} {f : Nat → Int} : dSum (.list (vecF n fun i => .int (f i))) = some (.int (isum n f)) := by
  unfold dSum
  simp only [toInts_vec]
  rfl
/-! ### the squares -/
/-- BᵀB + diag (1 + e) -/
def sqM (n : Nat) (B : Nat → Nat → Int) (e : Nat → Int) (i j : Nat) : Int := isum n (fun k => B k i * B k j) + if j = i then 1 + e i else 0
theorem sq_pd {n : Nat} {B : Nat → Nat → Int} {e : Nat → Int} (he : ∀ i, i < n → 0 ≤ e i) (z : Nat → Rat) (hz : ∃ i, i < n ∧ z i ≠ 0) : 0 < sumN n fun i => z i * sumN n fun j => ((sqM n B e i j : Int) : Rat) * z j := by
  have h1 : (sumN n fun i => z i * sumN n fun j => ((sqM n B e i j : Int) : Rat) * z j) = (sumN n fun k => (sumN n fun i => (B k i : Rat) * z i) * (sumN n fun i => (B k i : Rat) * z i)) + sumN n fun i => (1 + (e i : Rat)) * (z i * z i) := by
    have e1 : ∀ i, i < n → (sumN n fun j => ((sqM n B e i j : Int) : Rat) * z j) = (sumN n fun k => (B k i : Rat) * sumN n fun j => (B k j : Rat) * z j) + (1 + (e i : Rat)) * z i := fun i hi => by
      have e2 : (sumN n fun j => ((sqM n B e i j : Int) : Rat) * z j) = (sumN n fun j => (sumN n fun k => (B k i : Rat) * (B k j : Rat)) * z j) + sumN n fun j => if j = i then (1 + (e i : Rat)) * z i else 0 := by
        rw [← sumN_add]
        refine sumN_congr fun j _ => ?_
        have e3 : ((sqM n B e i j : Int) : Rat) = (sumN n fun k => (B k i : Rat) * (B k j : Rat)) + if j = i then 1 + (e i : Rat) else 0 := by
          unfold sqM
          rw [Rat.intCast_add, isum_cast]
          congr 1
          · exact sumN_congr fun k _ => Rat.intCast_mul _ _
          · by_cases h : j = i
            · rw [if_pos h, if_pos h, Rat.intCast_add]
              rfl
            · rw [if_neg h, if_neg h]
              rfl
        rw [e3]
        by_cases h : j = i
        · subst h
          simp only [if_true]
          grind
        · simp only [h, if_false]
          grind
      rw [e2, sumN_one hi fun j _ hj => if_neg hj, if_pos rfl]
      congr 1
      have e4 : (sumN n fun j => (sumN n fun k => (B k i : Rat) * (B k j : Rat)) * z j) = sumN n fun j => sumN n fun k => (B k i : Rat) * ((B k j : Rat) * z j) := sumN_congr fun j _ => by
        rw [← sumN_mul_right]
        exact sumN_congr fun k _ => by grind
      rw [e4, sumN_comm]
      exact sumN_congr fun k _ => sumN_mul
    rw [sumN_congr fun i hi => by rw [e1 i hi]]
    have e5 : (sumN n fun i => z i * ((sumN n fun k => (B k i : Rat) * sumN n fun j => (B k j : Rat) * z j) + (1 + (e i : Rat)) * z i)) = (sumN n fun i => sumN n fun k => ((B k i : Rat) * z i) * sumN n fun j => (B k j : Rat) * z j) + sumN n fun i => (1 + (e i : Rat)) * (z i * z i) := by
      rw [← sumN_add]
      refine sumN_congr fun i _ => ?_
      rw [show z i * ((sumN n fun k => (B k i : Rat) * sumN n fun j => (B k j : Rat) * z j) + (1 + (e i : Rat)) * z i) = z i * (sumN n fun k => (B k i : Rat) * sumN n fun j => (B k j : Rat) * z j) + (1 + (e i : Rat)) * (z i * z i) by grind, ← sumN_mul]
      congr 1
      exact sumN_congr fun k _ => by grind
    rw [e5, sumN_comm]
    congr 1
    exact sumN_congr fun k _ => sumN_mul_right
  rw [h1]
  have sqn : ∀ a : Rat, 0 ≤ a * a := fun a => by
    rcases Rat.nonneg_total a with h | h
    · exact Rat.mul_nonneg h h
    · have := Rat.mul_nonneg h h
      grind
  have h2 : 0 ≤ sumN n fun k => (sumN n fun i => (B k i : Rat) * z i) * (sumN n fun i => (B k i : Rat) * z i) := sumN_nonneg fun k _ => sqn _
  obtain ⟨i, hi, hzi⟩ := hz
  have ce : ∀ i, i < n → 0 ≤ (e i : Rat) := fun i hi => by exact_mod_cast he i hi
  have h3 : 0 < sumN n fun i => (1 + (e i : Rat)) * (z i * z i) := by
    refine sumN_pos hi (fun k hk => Rat.mul_nonneg (by have := ce k hk; grind) (sqn _)) ?_
    have h4 := sqn (z i)
    have h5 : z i * z i ≠ 0 := fun h => by
      rcases Rat.mul_eq_zero.mp h with h | h <;> exact hzi h
    have h6 : 0 < z i * z i := by grind
    have h7 := ce i hi
    have h8 : 0 ≤ (e i : Rat) * (z i * z i) := Rat.mul_nonneg h7 h4
    grind
  grind
end PX

namespace PX
open PySem L2 DL PG
theorem mulOk10 {i j : Int} (h1 : i.natAbs ≤ 1000) (h2 : j.natAbs ≤ 1000) : mulOk i j = true := mulOk_of (pow10 h1) (pow10 h2) (by decide)
theorem sq_congr {n : Nat} {B : Nat → Nat → Int} {e e' : Nat → Int} {i : Nat} (h : e i = e' i) : sqM n B e i = sqM n B e' i := by
  funext j
  unfold sqM
  rw [h]
def SqJ (n z : Nat) (B : Nat → Nat → Int) (i : Nat) (ρ : Ev) : Prop := ∃ w e s5 s6, RowOk w ∧ (∀ k, k < i → 0 ≤ e k ∧ e k ≤ 1) ∧ ρ = ⟨w, [.row, .s (.int (n : Nat)), .s (.int (z : Nat)), .s (.list (vecF n fun i => iL n (B i))), .o (vecF i fun k => iT n (sqM n B e k)), s5, s6, .no, .no, .no]⟩
theorem F_law_squares_ok {w : DL.Row} {n z : Nat} (hw : RowOk w) (hn : n ≤ 4) (hz : z ≤ 10) :
    ∃ d w', F_law_squares [.row, .s (.int (n : Nat)), .s (.int (z : Nat))] w = some (d, w') ∧ RowOk w' ∧ ∃ B e, d = .tuple (vecF n fun i => iT n (sqM n B e i)) ∧ (∀ i j, i < n → j < n → (B i j).natAbs ≤ z) ∧ ∀ i, i < n → 0 ≤ e i ∧ e i ≤ 1 := by
  refine def_wp (P := fun d w' => RowOk w' ∧ ∃ B e, d = .tuple (vecF n fun i => iT n (sqM n B e i)) ∧ (∀ i j, i < n → j < n → (B i j).natAbs ≤ z) ∧ ∀ i, i < n → 0 ≤ e i ∧ e i ≤ 1) rfl ?_
  unfold g_law_squares
  simp [d_range (show n ≤ 1000000 by omega), lst_its (show n ≤ 1000000 by omega)]
  obtain ⟨B, w1, e1, hw1, hB⟩ := lcGo_draw (vs := [7]) (fg := gtName 7) (ft := mRet true) (fe := (mBind (mLc [5] (mRange1 (mVar 1)) (gtName 5) (mRet true) (mCallG F_law_number (mConsRow 0 (mConsS (mVar 2) (mRet []))))) fun ds => mRet (.list ds))) RowOk (fun _ (f : Nat → Int) => ∀ j, j < n → (f j).natAbs ≤ z) (fun f => iL n f) (n := n) (c := fun i => .int (i : Nat)) (sl := [.row, .s (.int n), .s (.int z), .no, .no, .no, .no, .no, .no, .no]) hw (fun i w hi hw => by
    obtain ⟨f, w2, e2, hw2, hf⟩ := lcGo_draw (vs := [5]) (fg := gtName 5) (ft := mRet true) (fe := (mCallG F_law_number (mConsRow 0 (mConsS (mVar 2) (mRet []))))) RowOk (fun _ (k : Int) => k.natAbs ≤ z) (fun k => .int k) (n := n) (c := fun i => .int (i : Nat)) (sl := [.row, .s (.int n), .s (.int z), .no, .no, .no, .no, .s (.int i), .no, .no]) hw (fun j w hj hw => by
      obtain ⟨k, w', e, h3, h4⟩ := number_ok (z := z) hw (by omega)
      refine ⟨⟨w, [.row, .s (.int n), .s (.int z), .no, .no, .s (.int j), .no, .s (.int i), .no, .no]⟩, k, w', ?_, rfl, ?_, h3, h4⟩
      · simp [Ev.wipe, wipeS]
      · simp [e])
    refine ⟨⟨w, [.row, .s (.int n), .s (.int z), .no, .no, .no, .no, .s (.int i), .no, .no]⟩, f, w2, ?_, rfl, ?_, hw2, hf⟩
    · simp [Ev.wipe, wipeS]
    · simp [d_range (show n ≤ 1000000 by omega), lst_its (show n ≤ 1000000 by omega), e2]
      rfl)
  rw [e1]
  simp [d_range (show n ≤ 1000000 by omega)]
  refine wp_thn (SqJ n z B n) ?_ ?_
  · refine wp_for (SqJ n z B) ⟨_, fun _ => 0, _, _, hw1, fun k hk => absurd hk (Nat.not_lt_zero _), rfl⟩ ?_ ?_
    · rintro a ρ ha ⟨w, e, s5, s6, hw, he, rfl⟩
      simp [d_range (show n ≤ 1000000 by omega), lst_its (show n ≤ 1000000 by omega)]
      rw [lcGo_vec (φ := fun j => .int (isum n fun k => B k a * B k j))]
      · obtain ⟨k, w', et, hw', hk⟩ := taken_ok (m := 2) hw (by decide)
        have e6 : stO (.o (vecF n fun j => .int (isum n fun k => B k a * B k j))) (a : Int) (.int ((isum n fun k => B k a * B k a) + 1 + (k : Int))) = some (.o (vecF n fun j => .int (sqM n B (fun i => if i = a then (k : Int) else e i) a j))) := by
          unfold stO
          simp only [vecF_len, ixN_nat ha, vecF_set]
          congr 2
          refine vecF_congr fun j hj => ?_
          unfold sqM
          by_cases h : j = a
          · subst h
            simp only [if_true]
            congr 1
            omega
          · rw [if_neg h, if_neg h, Int.add_zero]
        have e7 : apO (.o (vecF a fun k => iT n (sqM n B e k))) (.tuple (vecF n fun j => .int (sqM n B (fun i => if i = a then (k : Int) else e i) a j))) = some (.o (vecF (a + 1) fun i => iT n (sqM n B (fun i => if i = a then (k : Int) else e i) i))) := by
          rw [ap_o (by simp; omega), vecF_succ]
          congr 3
          refine vecF_congr fun i hi => ?_
          rw [sq_congr (e := e) (e' := fun i => if i = a then (k : Int) else e i)]
          rw [if_neg (by omega)]
        simp [atI_vec ha, et, e6, e7]
        refine wp_some ⟨_, fun i => if i = a then (k : Int) else e i, _, _, hw', fun i hi => ?_, rfl⟩
        by_cases h : i = a
        · simp only [h, if_true]; omega
        · simp only [h, if_false]; exact he i (by omega)
      · intro j hj
        refine ⟨⟨w, [.row, .s (.int n), .s (.int z), .s (.list (vecF n fun i => iL n (B i))), .o (vecF a fun k => iT n (sqM n B e k)), .s (.int a), s6, .no, .s (.int j), .no]⟩, ?_, rfl, ?_⟩
        · simp [Ev.wipe, wipeS]
        · simp [lst_its (show n ≤ 1000000 by omega)]
          rw [lcGo_vec (φ := fun k => .int (B k a * B k j))]
          · simp [d_sum]
          · intro k hk
            refine ⟨⟨w, [.row, .s (.int n), .s (.int z), .s (.list (vecF n fun i => iL n (B i))), .o (vecF a fun k => iT n (sqM n B e k)), .s (.int a), s6, .no, .s (.int j), .s (iL n (B k))]⟩, ?_, rfl, ?_⟩
            · simp [Ev.wipe, wipeS]
            · have hm : mulOk (B k a) (B k j) = true := mulOk10 (by have := hB k hk a ha; omega) (by have := hB k hk j hj; omega)
              simp [ix_its (its_iL (v := B k)) ha, ix_its (its_iL (v := B k)) hj, hm]
    · rintro ρ h
      exact h
  · rintro ρ ⟨w, e, s5, s6, hw, he, rfl⟩
    simp
    exact wp_some ⟨hw, B, e, rfl, fun i j hi hj => hB i hi j hj, he⟩
theorem F_law_share_ok {w : DL.Row} {z l : Nat} (hw : RowOk w) (hz : z ≤ 1000) (h0 : 0 < l) (hl : l ≤ 1000) :
    ∃ (s : Rat) (w' : DL.Row), F_law_share [.row, .s (.int (z : Nat)), .s (.int (l : Nat))] w = some (frD s, w') ∧ RowOk w' ∧ Sz 10 s := by
  obtain ⟨k, w1, e1, hw1, hk⟩ := number_ok (z := z) hw hz
  obtain ⟨m, w2, e2, hw2, hm⟩ := taken_ok (m := (l : Int)) hw1 (by omega)
  have h1 : (1 : Int) + (m : Int) ≠ 0 := by omega
  have hs : Sz 10 (Rat.divInt k (1 + (m : Int))) := Sz.divInt (by have : (2 : Nat) ^ 10 = 1024 := rfl; omega) (by have : (2 : Nat) ^ 10 = 1024 := rfl; omega) h1
  refine ⟨_, w2, ?_, hw2, hs⟩
  refine def_of rfl ?_
  unfold g_law_share
  simp [e1, e2, F_law_fr_eq h1]
end PX

namespace PX
open PySem L2 DL PG
def rowD' (n : Nat) (A : Nat → Nat → Int) (b e : Nat → Int) (i : Nat) : D := .tuple [iT n (A i), .int (b i), .int (e i)]
def TkJ (n z : Nat) (cols rows : Nat) (sq : D) (c d : Nat → Int) (i : Nat) (ρ : Ev) : Prop := ∃ w A b e s9 s10, RowOk w ∧ (∀ k, k < i → (∀ j, j < n → (A k j).natAbs ≤ z) ∧ (b k).natAbs ≤ 5 ∧ (e k).natAbs ≤ 2) ∧
  ρ = ⟨w, [.row, .s (.int (cols : Nat)), .s (.int (rows : Nat)), .s (.int (z : Nat)), .s (.int (n : Nat)), .s sq, .s (iT n c), .s (iT n d), .o (vecF i (rowD' n A b e)), s9, s10, .no]⟩
/-- a drawn task -/
structure Drawn (t : Tk) (cols rows : Nat) : Prop where
  ok : t.Ok
  n : t.n ≤ cols
  h : t.h ≤ rows
  sm : t.Sm
theorem upd_lt {α : Type} {i k : Nat} {f : Nat → α} {x : α} (h : k < i) : (if k = i then x else f k) = f k := if_neg (by omega)
theorem F_law_task_ok {w : DL.Row} {cols rows z : Nat} (hw : RowOk w) (hc : 0 < cols) (hc4 : cols ≤ 4) (hr : rows ≤ 8) (hz : z ≤ 100) :
    ∃ d w', F_law_task [.row, .s (.int (cols : Nat)), .s (.int (rows : Nat)), .s (.int (z : Nat))] w = some (d, w') ∧ RowOk w' ∧ ∃ t : Tk, d = t.dat ∧ Drawn t cols rows := by
  refine def_wp (P := fun d w' => RowOk w' ∧ ∃ t : Tk, d = t.dat ∧ Drawn t cols rows) rfl ?_
  unfold g_law_task
  obtain ⟨n0, w1, e1, hw1, hn0⟩ := taken_ok (m := (cols : Int)) hw (by omega)
  obtain ⟨z0, w2, e2, hw2, hz0⟩ := taken_ok (m := 2) hw1 (by decide)
  obtain ⟨n, hn⟩ : ∃ n, n = 1 + n0 := ⟨_, rfl⟩
  have hni : (1 : Int) + (n0 : Int) = (n : Int) := by omega
  have hzi : (1 : Int) + (z0 : Int) = ((1 + z0 : Nat) : Int) := by omega
  have hn4 : n ≤ 4 := by omega
  obtain ⟨sq, w3, e3, hw3, B, e, rfl, hB, he⟩ := F_law_squares_ok (n := n) (z := 1 + z0) hw2 hn4 (by omega)
  have e3' : F_law_squares [.row, .s (.int (n : Nat)), .s (.int (1 + (z0 : Int)))] w2 = some (PyData.tuple (vecF n fun i => iT n (sqM n B e i)), w3) := by rw [hzi]; exact e3
  generalize hsq : (PyData.tuple (vecF n fun i => iT n (sqM n B e i)) : D) = sq at *
  simp [e1, hni, e2, e3', d_range (show n ≤ 1000000 by omega), lst_its (show n ≤ 1000000 by omega)]
  obtain ⟨c, w4, e4, hw4, hcc⟩ := lcGo_draw (vs := [11]) (fg := gtName 11) (ft := mRet true) (fe := mCallG F_law_number (mConsRow 0 (mConsS (mRet (.int 5)) (mRet [])))) RowOk (fun _ (k : Int) => k.natAbs ≤ 5) (fun k => .int k) (n := n) (c := fun i => .int (i : Nat)) (sl := [.row, .s (.int cols), .s (.int rows), .s (.int z), .s (.int n), .s sq, .no, .no, .no, .no, .no, .no]) hw3 (fun j w hj hw => by
    obtain ⟨k, w', e, h3, h4⟩ := number_ok (z := 5) hw (by decide)
    refine ⟨⟨w, [.row, .s (.int cols), .s (.int rows), .s (.int z), .s (.int n), .s sq, .no, .no, .no, .no, .no, .s (.int j)]⟩, k, w', ?_, rfl, ?_, h3, h4⟩
    · simp [Ev.wipe, wipeS]
    · have e' : F_law_number [.row, .s (.int 5)] w = some (.int k, w') := e
      simp [e'])
  rw [e4]
  simp [d_range (show n ≤ 1000000 by omega), lst_its (show n ≤ 1000000 by omega)]
  rw [show (PyData.tuple (vecF n fun i => (PyData.int (c i) : D)) : D) = iT n c from rfl]
  obtain ⟨d, w5, e5, hw5, hdd⟩ := lcGo_draw (vs := [11]) (fg := gtName 11) (ft := mRet true) (fe := mCallG F_law_number (mConsRow 0 (mConsS (mRet (.int 3)) (mRet [])))) RowOk (fun _ (k : Int) => k.natAbs ≤ 3) (fun k => .int k) (n := n) (c := fun i => .int (i : Nat)) (sl := [.row, .s (.int cols), .s (.int rows), .s (.int z), .s (.int n), .s sq, .s (iT n c), .no, .no, .no, .no, .no]) hw4 (fun j w hj hw => by
    obtain ⟨k, w', e, h3, h4⟩ := number_ok (z := 3) hw (by decide)
    refine ⟨⟨w, [.row, .s (.int cols), .s (.int rows), .s (.int z), .s (.int n), .s sq, .s (iT n c), .no, .no, .no, .no, .s (.int j)]⟩, k, w', ?_, rfl, ?_, h3, h4⟩
    · simp [Ev.wipe, wipeS]
    · have e' : F_law_number [.row, .s (.int 3)] w = some (.int k, w') := e
      simp [e'])
  rw [e5]
  obtain ⟨h, w6, e6, hw6, hh⟩ := taken_ok (m := (rows : Int) + 1) hw5 (by omega)
  have hh8 : h ≤ 8 := by omega
  simp [e6, d_range (show h ≤ 1000000 by omega)]
  rw [show (PyData.tuple (vecF n fun i => (PyData.int (d i) : D)) : D) = iT n d from rfl]
  refine wp_thn (TkJ n z cols rows sq c d h) ?_ ?_
  · refine wp_for (TkJ n z cols rows sq c d) ⟨_, fun _ _ => 0, fun _ => 0, fun _ => 0, _, _, hw6, fun k hk => absurd hk (Nat.not_lt_zero _), rfl⟩ ?_ ?_
    · rintro i ρ hi ⟨w, A, b, f, s9, s10, hw, hA, rfl⟩
      simp [d_range (show n ≤ 1000000 by omega), lst_its (show n ≤ 1000000 by omega)]
      obtain ⟨a, w7, e7, hw7, ha⟩ := lcGo_draw (vs := [11]) (fg := gtName 11) (ft := mRet true) (fe := mCallG F_law_number (mConsRow 0 (mConsS (mVar 3) (mRet [])))) RowOk (fun _ (k : Int) => k.natAbs ≤ z) (fun k => .int k) (n := n) (c := fun i => .int (i : Nat)) (sl := [.row, .s (.int cols), .s (.int rows), .s (.int z), .s (.int n), .s sq, .s (iT n c), .s (iT n d), .o (vecF i (rowD' n A b f)), .s (.int i), s10, .no]) hw (fun j w hj hw => by
        obtain ⟨k, w', e, h3, h4⟩ := number_ok (z := z) hw (by omega)
        refine ⟨⟨w, [.row, .s (.int cols), .s (.int rows), .s (.int z), .s (.int n), .s sq, .s (iT n c), .s (iT n d), .o (vecF i (rowD' n A b f)), .s (.int i), s10, .s (.int j)]⟩, k, w', ?_, rfl, ?_, h3, h4⟩
        · simp [Ev.wipe, wipeS]
        · simp [e])
      rw [e7]
      simp
      rw [show (PyData.tuple (vecF n fun i => (PyData.int (a i) : D)) : D) = iT n a from rfl]
      obtain ⟨k1, w8, e8, hw8, hk1⟩ := number_ok (z := 5) hw7 (by decide)
      have e8' : F_law_number [.row, .s (.int 5)] w7 = some (.int k1, w8) := e8
      obtain ⟨k2, w9, e9, hw9, hk2⟩ := taken_ok (m := 2) hw8 (by decide)
      have fin : ∀ (k3 : Int) (w10 : DL.Row), RowOk w10 → k3.natAbs ≤ 2 → apO (.o (vecF i (rowD' n A b f))) (.tuple [iT n a, .int k1, .int k3]) = some (.o (vecF (i + 1) (rowD' n (fun k => if k = i then a else A k) (fun k => if k = i then k1 else b k) (fun k => if k = i then k3 else f k)))) ∧
          ∀ k, k < i + 1 → (∀ j, j < n → ((fun k => if k = i then a else A k) k j).natAbs ≤ z) ∧ ((fun k => if k = i then k1 else b k) k).natAbs ≤ 5 ∧ ((fun k => if k = i then k3 else f k) k).natAbs ≤ 2 := fun k3 w10 _ hk3 => by
        refine ⟨?_, fun k hk => ?_⟩
        · rw [ap_o (by simp; omega), vecF_succ]
          congr 3
          · refine vecF_congr fun k hk => ?_
            unfold rowD'
            simp only [upd_lt hk]
          · unfold rowD'
            simp
        · by_cases h : k = i
          · simp only [h, if_true]
            exact ⟨ha, hk1, hk3⟩
          · simp only [h, if_false]
            exact hA k (by omega)
      by_cases hk : k2 = 0
      · obtain ⟨k3, w10, e10, hw10, hk3⟩ := number_ok (z := 2) hw9 (by decide)
        have e10' : F_law_number [.row, .s (.int 2)] w9 = some (.int k3, w10) := e10
        obtain ⟨q1, q2⟩ := fin k3 w10 hw10 hk3
        simp [e8', e9, hk, e10', q1]
        exact wp_some ⟨_, _, _, _, _, _, hw10, q2, rfl⟩
      · have hk' : ¬ ((k2 : Int) = 0) := by omega
        obtain ⟨q1, q2⟩ := fin 0 w9 hw9 (by decide)
        simp [e8', e9, hk, hk', q1]
        exact wp_some ⟨_, _, _, _, _, _, hw9, q2, rfl⟩
    · rintro ρ h
      exact h
  · rintro ρ ⟨w, A, b, f, s9, s10, hw, hA, rfl⟩
    simp
    refine wp_some ⟨hw, ⟨n, h, sqM n B e, c, d, A, b, f⟩, ?_, ⟨by show 1 ≤ n; omega, (by show n ≤ 5; omega), hh8, fun i j hi hj => ?_, fun i hi => ?_, fun i hi => ?_, fun i j hi hj => ?_, fun i hi => ?_, fun i hi => ?_, fun i j hi hj => ?_, fun y hy => ?_⟩, by show n ≤ cols; omega, by show h ≤ rows; omega, ⟨by show n ≤ 4; omega, fun i hi => by
      have := hcc i hi
      show (c i).natAbs ≤ 1000
      omega⟩⟩
    · rw [← hsq]
      rfl
    · show (sqM n B e i j).natAbs ≤ 1000
      unfold sqM
      have i1 := isum_le (n := n) (b := 4) (f := fun k => B k i * B k j) fun k hk => by
        rw [Int.natAbs_mul]
        have b1 := hB k i hk hi
        have b2 := hB k j hk hj
        have := Nat.mul_le_mul (show (B k i).natAbs ≤ 2 by omega) (show (B k j).natAbs ≤ 2 by omega)
        omega
      have i2 := he i hi
      have i3 : n * 4 ≤ 16 := by omega
      split <;> omega
    · have := hcc i hi
      show (c i).natAbs ≤ 4000
      omega
    · have := hdd i hi
      show (d i).natAbs ≤ 1000
      omega
    · have := (hA i hi).1 j hj
      show (A i j).natAbs ≤ 1000
      omega
    · have := (hA i hi).2.1
      show (b i).natAbs ≤ 1000
      omega
    · have := (hA i hi).2.2
      show (f i).natAbs ≤ 1000
      omega
    · show sqM n B e i j = sqM n B e j i
      unfold sqM
      have : isum n (fun k => B k i * B k j) = isum n (fun k => B k j * B k i) := isum_congr fun k _ => Int.mul_comm _ _
      rw [this]
      by_cases h : j = i
      · subst h; rfl
      · rw [if_neg h, if_neg fun z => h z.symm]
    · exact sq_pd (fun i hi => (he i hi).1) y hy
end PX

namespace PX
open PySem L2 DL PG
section
variable {t : Tk} {s : Rat} {v w X Y : Nat → Rat}
theorem Tk.quad_nonneg (ok : t.Ok) (z : Nat → Rat) : 0 ≤ sumN t.n fun j => z j * t.Mx z j := by
  by_cases h : ∃ i, i < t.n ∧ z i ≠ 0
  · have := ok.pd z h
    show 0 ≤ sumN t.n fun i => z i * sumN t.n fun j => (t.M i j : Rat) * z j
    grind
  · rw [sumN_zero fun j hj => ?_]
    · exact Rat.le_refl
    · have : z j = 0 := Classical.byContradiction fun n => h ⟨j, hj, n⟩
      rw [this, Rat.zero_mul]
theorem Tk.Mx_sym (ok : t.Ok) : (sumN t.n fun j => X j * t.Mx Y j) = sumN t.n fun j => Y j * t.Mx X j := by
  have e : ∀ X Y : Nat → Rat, (sumN t.n fun j => X j * t.Mx Y j) = sumN t.n fun i => sumN t.n fun j => X i * ((t.M i j : Rat) * Y j) := fun X Y => sumN_congr fun i _ => sumN_mul.symm
  rw [e, e, sumN_comm]
  refine sumN_congr fun i hi => sumN_congr fun j hj => ?_
  rw [ok.sym j i hj hi]
  grind
theorem Tk.Mx_sub : ∀ i, t.Mx (fun j => X j - Y j) i = t.Mx X i - t.Mx Y i := fun i => by
  unfold Tk.Mx
  rw [← sumN_sub]
  exact sumN_congr fun j _ => by grind
theorem Tk.Mx_uni (ok : t.Ok) (h : ∀ i, i < t.n → t.Mx X i = t.Mx Y i) : ∀ i, i < t.n → X i = Y i := fun i hi => Classical.byContradiction fun n => by
  refine Tk.no_null ok ⟨fun j => X j - Y j, ⟨i, hi, fun z => n (by grind)⟩, fun k hk => ?_⟩
  have := Tk.Mx_sub (t := t) (X := X) (Y := Y) k
  rw [h k hk] at this
  show t.Mx (fun j => X j - Y j) k = 0
  rw [this]
  grind
theorem Tk.Ax_Aw : (sumN t.h fun i => t.Ax v i * w i) = sumN t.n fun j => v j * t.Aw w j := by
  have e1 : (sumN t.h fun i => t.Ax v i * w i) = sumN t.h fun i => sumN t.n fun j => ((t.A i j : Rat) * v j) * w i := sumN_congr fun i _ => sumN_mul_right.symm
  have e2 : (sumN t.n fun j => v j * t.Aw w j) = sumN t.n fun j => sumN t.h fun i => v j * ((t.A i j : Rat) * w i) := sumN_congr fun j _ => sumN_mul.symm
  rw [e1, e2, sumN_comm]
  exact sumN_congr fun j _ => sumN_congr fun i _ => by grind
theorem sumN_le {n : Nat} {f g : Nat → Rat} (h : ∀ i, i < n → f i ≤ g i) : sumN n f ≤ sumN n g := by
  have := sumN_nonneg (n := n) (f := fun i => g i - f i) fun i hi => by have := h i hi; grind
  rw [sumN_sub] at this
  grind
/-- no promise of weights is above the worth of a plan that is kept -/
theorem Tk.weak (ok : t.Ok) (hg : ∀ i, i < t.h → 0 ≤ t.gap s v i) (hw : ∀ i, i < t.h → 0 ≤ w i) (hX : ∀ i, i < t.n → t.Mx X i = t.free s w i) : - sumN t.n (fun j => t.free s w j * X j / 2) + t.lim s w ≤ t.worth s v := by
  have h1 : t.lim s w ≤ sumN t.n fun j => v j * t.Aw w j := by
    rw [← Tk.Ax_Aw]
    unfold Tk.lim
    refine sumN_le fun i hi => ?_
    have g := hg i hi
    unfold Tk.gap at g
    have := Rat.mul_nonneg g (hw i hi)
    grind
  have h2 : (sumN t.n fun j => v j * t.Aw w j) = (sumN t.n fun j => v j * t.Mx X j) + sumN t.n fun j => v j * t.cost s j := by
    rw [← sumN_add]
    refine sumN_congr fun j hj => ?_
    rw [hX j hj]
    unfold Tk.free
    grind
  have h3 : t.worth s v = (sumN t.n fun j => v j * t.Mx v j) / 2 + sumN t.n fun j => v j * t.cost s j := by
    unfold Tk.worth
    rw [Rat.div_def, ← sumN_mul_right, ← sumN_add]
    exact sumN_congr fun j _ => by rw [Rat.div_def]; grind
  have h4 : (sumN t.n fun j => t.free s w j * X j / 2) = (sumN t.n fun j => X j * t.Mx X j) / 2 := by
    rw [Rat.div_def, ← sumN_mul_right]
    exact sumN_congr fun j hj => by rw [hX j hj, Rat.div_def]; grind
  have h5 := Tk.quad_nonneg ok fun j => v j - X j
  have h6 : (sumN t.n fun j => (v j - X j) * t.Mx (fun j => v j - X j) j) = (sumN t.n fun j => v j * t.Mx v j) - (sumN t.n fun j => v j * t.Mx X j) - (sumN t.n fun j => X j * t.Mx v j) + sumN t.n fun j => X j * t.Mx X j := by
    rw [← sumN_sub, ← sumN_sub, ← sumN_add]
    refine sumN_congr fun j _ => ?_
    rw [Tk.Mx_sub]
    grind
  rw [h6, Tk.Mx_sym ok (X := X) (Y := v)] at h5
  rw [h3, h4]
  rw [h2] at h1
  generalize (sumN t.n fun j => v j * t.Mx v j) = a at *
  generalize (sumN t.n fun j => v j * t.Mx X j) = b at *
  generalize (sumN t.n fun j => X j * t.Mx X j) = c at *
  generalize (sumN t.n fun j => v j * t.cost s j) = d at *
  grind
theorem frD_inv {W : Nat} (hW : 0 < W) : frD (Rat.divInt 1 (W : Int)) = .tuple [.int 1, .int (W : Int)] := by
  rw [fr_parts (by omega)]
  have e1 : Int.gcd 1 (W : Int) = 1 := by simp
  rw [e1, Int.sign_eq_one_of_pos (by omega)]
  simp
theorem atI_last {α : Type} {l : List α} {x : α} : L2.atI (l ++ [x]) (-1) = some x := by
  unfold L2.atI ixN
  rw [if_neg (by decide), if_pos (by simp; omega)]
  have e : ((-1 : Int) + ((l ++ [x]).length : Nat)).toNat = l.length := by simp; omega
  show (l ++ [x])[((-1 : Int) + ((l ++ [x]).length : Nat)).toNat]? = some x
  rw [e]
  simp
theorem filter_nil {n : Nat} {P : Nat → Bool} : ((List.range n).filter P).isEmpty = true ↔ ∀ i, i < n → P i = false := by
  rw [List.isEmpty_iff, List.filter_eq_nil_iff]
  constructor
  · intro h i hi
    have := h i (List.mem_range.mpr hi)
    simpa using this
  · intro h i hi
    rw [h i (List.mem_range.mp hi)]
    simp
/-- the list of what is below nought, against the empty list -/
theorem neg_list {n : Nat} {f : Nat → Rat} : ∃ β, dEq (.list (((List.range n).filter fun i => decide (f i < 0)).map fun i => frD (f i))) (.list []) = some (.bool β) ∧ dNe (.list (((List.range n).filter fun i => decide (f i < 0)).map fun i => frD (f i))) (.list []) = some (.bool (!β)) ∧ (β = true ↔ ∀ i, i < n → 0 ≤ f i) := by
  have hs : ∀ d ∈ (((List.range n).filter fun i => decide (f i < 0)).map fun i => frD (f i)), Sh 1 d := fun d hd => by
    obtain ⟨i, _, rfl⟩ := List.mem_map.mp hd
    exact sh_frD _
  refine ⟨_, d_eqNil hs (by decide), d_neNil hs (by decide), ?_⟩
  rw [List.isEmpty_map, filter_nil]
  constructor
  · intro h i hi
    have := h i hi
    exact Rat.not_lt.mp (of_decide_eq_false this)
  · intro h i hi
    exact decide_eq_false (Rat.not_lt.mpr (h i hi))
end
end PX

namespace PX
open PySem L2 DL PG
/-- all entries over one denominator -/
def CD (n w b : Nat) (T : Tab) : Prop := ∃ (d : Int) (a : Nat → Nat → Int), d ≠ 0 ∧ d.natAbs < 2 ^ b ∧ ∀ i j, i < n → j < w → (a i j).natAbs < 2 ^ b ∧ T i j = Rat.divInt (a i j) d
theorem CD.sz {n w b : Nat} {T : Tab} (h : CD n w b T) : TSz n w b T := fun i j hi hj => by
  obtain ⟨d, a, h0, h1, h2⟩ := h
  obtain ⟨h3, h4⟩ := h2 i j hi hj
  rw [h4]
  exact Sz.divInt h3 h1 h0
theorem CD.swap {n w b c p : Nat} {T : Tab} (h : CD n w b T) (hc : c < n) (hp : p < n) : CD n w b (swapR T c p) := by
  obtain ⟨d, a, h0, h1, h2⟩ := h
  refine ⟨d, fun i => if i = p then a c else if i = c then a p else a i, h0, h1, fun i j hi hj => ?_⟩
  unfold swapR
  by_cases e1 : i = p
  · simp only [e1, if_true]
    exact h2 c j hc hj
  · by_cases e2 : i = c
    · simp only [e1, e2, if_false, if_true]
      split
      · exact h2 c j hc hj
      · exact h2 p j hp hj
    · simp only [e1, e2, if_false]
      exact h2 i j hi hj
theorem CD.step {n w b c p : Nat} {T : Tab} (h : CD n w b T) (hc : c < n) (hp : p < n) (hcw : c < w) (h0 : T p c ≠ 0) : CD n w (2 * b + 1) (stepR T c p) := by
  obtain ⟨d, a, d0, d1, h2⟩ := h.swap hc hp
  have hT : swapR T c p c = T p := by
    unfold swapR
    by_cases e : c = p
    · subst e; simp
    · simp [e]
  have e0 : swapR T c p c c = Rat.divInt (a c c) d := (h2 c c hc hcw).2
  have hP : a c c ≠ 0 := fun z => by
    rw [hT, z, Rat.zero_divInt] at e0
    exact h0 e0
  have dQ : (d : Rat) ≠ 0 := fun z => d0 (by exact_mod_cast z)
  have pQ : ((a c c : Int) : Rat) ≠ 0 := fun z => hP (by exact_mod_cast z)
  have key : 2 ^ (2 * b + 1) = 2 * (2 ^ b * 2 ^ b) := by rw [Nat.pow_succ, Nat.two_mul, Nat.pow_add, Nat.mul_comm]
  refine ⟨d * a c c, fun i j => if i = c then a c j * d else a i j * a c c - a i c * a c j, Int.mul_ne_zero d0 hP, ?_, fun i j hi hj => ?_⟩
  · rw [Int.natAbs_mul]
    have := Nat.mul_lt_mul'' d1 (h2 c c hc hcw).1
    omega
  · obtain ⟨m1, q1⟩ := h2 c j hc hj
    obtain ⟨m2, q2⟩ := h2 i j hi hj
    obtain ⟨m3, q3⟩ := h2 i c hi hcw
    obtain ⟨m4, q4⟩ := h2 c c hc hcw
    unfold stepR elimR normR
    by_cases e : i = c
    · simp only [e, if_true]
      refine ⟨?_, ?_⟩
      · rw [Int.natAbs_mul]
        have := Nat.mul_lt_mul'' m1 d1
        omega
      · rw [q1, q4]
        simp only [Rat.divInt_eq_div, Rat.intCast_mul]
        generalize (d : Rat) = x at *
        generalize ((a c c : Int) : Rat) = y at *
        generalize ((a c j : Int) : Rat) = z at *
        grind
    · simp only [e, if_false, if_true]
      refine ⟨?_, ?_⟩
      · have n1 := Nat.mul_lt_mul'' m2 m4
        have n2 := Nat.mul_lt_mul'' m3 m1
        have n3 := Int.natAbs_sub_le (a i j * a c c) (a i c * a c j)
        rw [Int.natAbs_mul, Int.natAbs_mul] at n3
        omega
      · rw [q1, q2, q3, q4]
        simp only [Rat.divInt_eq_div, Rat.intCast_mul, Rat.intCast_sub]
        generalize (d : Rat) = x at *
        generalize ((a c c : Int) : Rat) = y at *
        generalize ((a c j : Int) : Rat) = z at *
        generalize ((a i j : Int) : Rat) = u at *
        generalize ((a i c : Int) : Rat) = v at *
        grind
end PX

namespace PX
open PySem L2 DL PG
/-! ### more unknowns than equations -/
def skp (p s : Nat) : Nat := if s < p then s else s + 1
theorem sumN_skip {k p : Nat} {f : Nat → Rat} (hp : p < k + 1) : sumN (k + 1) f = f p + sumN k fun s => f (skp p s) := by
  induction k with
  | zero =>
    have : p = 0 := by omega
    subst this
    simp [sumN]
    grind
  | succ k ih =>
    by_cases h : p = k + 1
    · subst h
      show sumN (k + 1) f + f (k + 1) = _
      have : (sumN (k + 1) fun s => f (skp (k + 1) s)) = sumN (k + 1) f := sumN_congr fun i hi => by
        unfold skp
        rw [if_pos hi]
      rw [this]
      grind
    · show sumN (k + 1) f + f (k + 1) = f p + (sumN k (fun s => f (skp p s)) + f (skp p k))
      rw [ih (by omega)]
      have : skp p k = k + 1 := by
        unfold skp
        rw [if_neg (by omega)]
      rw [this]
      grind
theorem under : ∀ (m k : Nat) (B : Nat → Nat → Rat), m < k → ∃ v : Nat → Rat, (∃ s, s < k ∧ v s ≠ 0) ∧ ∀ i, i < m → sumN k (fun s => B i s * v s) = 0
  | 0, k, B, h => ⟨fun _ => 1, ⟨0, h, by decide⟩, fun i hi => absurd hi (Nat.not_lt_zero _)⟩
  | m + 1, k, B, h => by
    by_cases hz : ∀ s, s < k → B m s = 0
    · obtain ⟨v, h1, h2⟩ := under m k B (by omega)
      refine ⟨v, h1, fun i hi => ?_⟩
      by_cases e : i = m
      · subst e
        exact sumN_zero fun s hs => by rw [hz s hs]; grind
      · exact h2 i (by omega)
    · obtain ⟨p, hp, h0⟩ : ∃ p, p < k ∧ B m p ≠ 0 := Classical.byContradiction fun n => hz fun s hs => Classical.byContradiction fun z => n ⟨s, hs, z⟩
      obtain ⟨k', rfl⟩ : ∃ k', k = k' + 1 := ⟨k - 1, by omega⟩
      obtain ⟨v, ⟨s0, hs0, hv0⟩, h2⟩ := under m k' (fun i s => B i (skp p s) - B i p * B m (skp p s) / B m p) (by omega)
      let u : Nat → Rat := fun s => if s = p then - sumN k' (fun z => B m (skp p z) * v z) / B m p else if s < p then v s else v (s - 1)
      have us : ∀ s, u (skp p s) = v s := fun s => by
        show (if skp p s = p then _ else if skp p s < p then v (skp p s) else v (skp p s - 1)) = v s
        unfold skp
        by_cases h : s < p
        · rw [if_pos h, if_neg (by omega), if_pos h]
        · rw [if_neg h, if_neg (by omega), if_neg (by omega)]
          congr 1
      have up : u p = - sumN k' (fun z => B m (skp p z) * v z) / B m p := if_pos rfl
      have sp : ∀ i, sumN (k' + 1) (fun s => B i s * u s) = B i p * u p + sumN k' fun s => B i (skp p s) * v s := fun i => by
        rw [sumN_skip (f := fun s => B i s * u s) hp]
        congr 1
        exact sumN_congr fun s _ => by rw [us]
      refine ⟨u, ⟨skp p s0, ?_, by rw [us]; exact hv0⟩, fun i hi => ?_⟩
      · unfold skp
        split <;> omega
      · rw [sp]
        by_cases e : i = m
        · subst e
          rw [up]
          generalize sumN k' (fun z => B i (skp p z) * v z) = S
          grind
        · have h3 := h2 i (by omega)
          have e2 : (sumN k' fun s => (B i (skp p s) - B i p * B m (skp p s) / B m p) * v s) = sumN k' (fun s => B i (skp p s) * v s) + (-(B i p / B m p)) * sumN k' fun s => B m (skp p s) * v s := by
            rw [← sumN_mul, ← sumN_add]
            refine sumN_congr fun s _ => ?_
            grind
          rw [e2] at h3
          rw [up]
          generalize sumN k' (fun z => B m (skp p z) * v z) = S at *
          generalize sumN k' (fun s => B i (skp p s) * v s) = S2 at *
          grind
/-! ### lots of rows -/
def at0 (l : List Nat) (s : Nat) : Nat := l.getD s 0
def sumL : List Nat → (Nat → Rat) → Rat
  | [], _ => 0
  | a :: l, f => f a + sumL l f
theorem sumL_congr {f g : Nat → Rat} : ∀ {l : List Nat}, (∀ i ∈ l, f i = g i) → sumL l f = sumL l g
  | [], _ => rfl
  | a :: l, h => by
    show f a + sumL l f = g a + sumL l g
    rw [h a (List.mem_cons_self ..), sumL_congr fun i hi => h i (List.mem_cons_of_mem _ hi)]
theorem sumN_cons {k : Nat} {f : Nat → Rat} : sumN (k + 1) f = f 0 + sumN k fun s => f (s + 1) := by
  induction k with
  | zero => simp [sumN]; grind
  | succ k ih =>
    show sumN (k + 1) f + f (k + 1) = f 0 + (sumN k (fun s => f (s + 1)) + f (k + 1))
    rw [ih]
    grind
theorem sumL_at {g : Nat → Rat} : ∀ {l : List Nat}, sumL l g = sumN l.length fun s => g (at0 l s)
  | [] => rfl
  | a :: l => by
    show g a + sumL l g = sumN (l.length + 1) _
    rw [sumN_cons, sumL_at (l := l)]
    rfl
theorem sumN_lot {h : Nat} : ∀ {l : List Nat} {g : Nat → Rat}, l.Nodup → (∀ i ∈ l, i < h) → (∀ i, i < h → i ∉ l → g i = 0) → sumN h g = sumL l g
  | [], g, _, _, hz => sumN_zero fun i hi => hz i hi (by simp)
  | a :: l, g, hn, hl, hz => by
    rw [List.nodup_cons] at hn
    have ha := hl a (List.mem_cons_self ..)
    have e1 : sumN h g = g a + sumN h fun i => if i = a then 0 else g i := by
      have : sumN h g = sumN h (fun i => (if i = a then g a else 0)) + sumN h fun i => if i = a then 0 else g i := by
        rw [← sumN_add]
        refine sumN_congr fun i _ => ?_
        by_cases e : i = a
        · rw [if_pos e, if_pos e, e]; grind
        · rw [if_neg e, if_neg e]; grind
      rw [this, sumN_one (a := a) ha (fun i _ e => by rw [if_neg e]), if_pos rfl]
    rw [e1, sumN_lot (l := l) hn.2 (fun i hi => hl i (List.mem_cons_of_mem _ hi)) fun i hi hni => ?_]
    · show g a + _ = g a + sumL l g
      congr 1
      refine sumL_congr fun i hi => ?_
      rw [if_neg (fun e : i = a => hn.1 (e ▸ hi))]
    · by_cases e : i = a
      · rw [if_pos e]
      · rw [if_neg e]
        refine hz i hi fun hm => ?_
        rcases List.mem_cons.mp hm with z | z
        · exact e z
        · exact hni z
theorem at0_mem {l : List Nat} {s : Nat} (h : s < l.length) : at0 l s ∈ l := by
  unfold at0
  rw [List.getD_eq_getElem?_getD, List.getElem?_eq_getElem h]
  exact List.getElem_mem h
theorem at0_inj {l : List Nat} (hn : l.Nodup) {s r : Nat} (hs : s < l.length) (hr : r < l.length) (e : at0 l s = at0 l r) : s = r := by
  unfold at0 at e
  rw [List.getD_eq_getElem?_getD, List.getD_eq_getElem?_getD, List.getElem?_eq_getElem hs, List.getElem?_eq_getElem hr] at e
  have pw := List.pairwise_iff_getElem.mp hn
  rcases Nat.lt_trichotomy s r with h | h | h
  · exact absurd e (pw s r hs hr h)
  · exact h
  · exact absurd e.symm (pw r s hr hs h)
/-- by places to by rows -/
def byRow (l : List Nat) (v : Nat → Rat) (r : Nat) : Rat := if r ∈ l then v (l.idxOf r) else 0
theorem byRow_at {l : List Nat} (hn : l.Nodup) {v : Nat → Rat} {s : Nat} (h : s < l.length) : byRow l v (at0 l s) = v s := by
  unfold byRow
  rw [if_pos (at0_mem h)]
  congr 1
  have hi := List.idxOf_lt_length_of_mem (at0_mem h)
  refine at0_inj hn hi h ?_
  have e : at0 l (l.idxOf (at0 l s)) = l[l.idxOf (at0 l s)] := by
    show l.getD _ 0 = _
    rw [List.getD_eq_getElem?_getD, List.getElem?_eq_getElem hi]
    rfl
  rw [e, List.getElem_idxOf]
theorem byRow_no {l : List Nat} {v : Nat → Rat} {r : Nat} (h : r ∉ l) : byRow l v r = 0 := if_neg h
section
variable {t : Tk} {s : Rat} {l : List Nat} {x y : Nat → Rat} {U W : Nat → Rat}
/-- a sum over the rows of a lot alone -/
theorem Tk.Aw_lot (hn : l.Nodup) (hl : ∀ i ∈ l, i < t.h) (hz : ∀ i, i ∉ l → U i = 0) (j : Nat) : t.Aw U j = sumN l.length fun s => (t.A (at0 l s) j : Rat) * U (at0 l s) := by
  unfold Tk.Aw
  rw [sumN_lot hn hl fun i _ h => by rw [hz i h]; grind, sumL_at]
/-- rows that don't lean on one another -/
def Tk.Ind (t : Tk) (l : List Nat) : Prop := ∀ U : Nat → Rat, (∀ i, i ∉ l → U i = 0) → (∀ j, j < t.n → t.Aw U j = 0) → ∀ i, U i = 0
theorem Tk.Aw_add {j : Nat} : t.Aw (fun i => U i + W i) j = t.Aw U j + t.Aw W j := by
  unfold Tk.Aw
  rw [← sumN_add]
  exact sumN_congr fun i _ => by grind
theorem Tk.Aw_sub {j : Nat} : t.Aw (fun i => U i - W i) j = t.Aw U j - t.Aw W j := by
  unfold Tk.Aw
  rw [← sumN_sub]
  exact sumN_congr fun i _ => by grind
theorem Tk.Aw_mul {j : Nat} {c : Rat} : t.Aw (fun i => c * U i) j = c * t.Aw U j := by
  unfold Tk.Aw
  rw [← sumN_mul]
  exact sumN_congr fun i _ => by grind
theorem Tk.Ax_add {j : Nat} : t.Ax (fun i => U i + W i) j = t.Ax U j + t.Ax W j := by
  unfold Tk.Ax
  rw [← sumN_add]
  exact sumN_congr fun i _ => by grind
theorem Tk.Ax_sub {j : Nat} : t.Ax (fun i => U i - W i) j = t.Ax U j - t.Ax W j := by
  unfold Tk.Ax
  rw [← sumN_sub]
  exact sumN_congr fun i _ => by grind
theorem Tk.Ax_mul {j : Nat} {c : Rat} : t.Ax (fun i => c * U i) j = c * t.Ax U j := by
  unfold Tk.Ax
  rw [← sumN_mul]
  exact sumN_congr fun i _ => by grind
theorem Tk.Mx_add {j : Nat} : t.Mx (fun i => U i + W i) j = t.Mx U j + t.Mx W j := by
  unfold Tk.Mx
  rw [← sumN_add]
  exact sumN_congr fun i _ => by grind
theorem Tk.Mx_mul {j : Nat} {c : Rat} : t.Mx (fun i => c * U i) j = c * t.Mx U j := by
  unfold Tk.Mx
  rw [← sumN_mul]
  exact sumN_congr fun i _ => by grind
/-- independent rows are at most as many as columns -/
theorem Tk.Ind.le (hI : t.Ind l) (hn : l.Nodup) (hl : ∀ i ∈ l, i < t.h) : l.length ≤ t.n := Classical.byContradiction fun h => by
  obtain ⟨v, ⟨s0, h1, h2⟩, h3⟩ := under t.n l.length (fun j s => (t.A (at0 l s) j : Rat)) (by omega)
  have := hI (byRow l v) (fun i h => byRow_no h) (fun j hj => by
    rw [Tk.Aw_lot hn hl (fun i h => byRow_no h), ← h3 j hj]
    exact sumN_congr fun s hs => by rw [byRow_at hn hs]) (at0 l s0)
  rw [byRow_at hn h1] at this
  exact h2 this
theorem Tk.quad_zero (ok : t.Ok) (h : (sumN t.n fun j => x j * t.Mx x j) ≤ 0) : ∀ j, j < t.n → x j = 0 := fun j hj => Classical.byContradiction fun z => by
  have := ok.pd x ⟨j, hj, z⟩
  have e : (sumN t.n fun j => x j * t.Mx x j) = sumN t.n fun i => x i * sumN t.n fun j => (t.M i j : Rat) * x j := rfl
  rw [e] at h
  grind
/-- what a step does: x M x by the rows of a lot -/
theorem Tk.quad_lot (hM : ∀ j, j < t.n → t.Mx x j = t.Aw U j) : (sumN t.n fun j => x j * t.Mx x j) = sumN t.h fun i => t.Ax x i * U i := by
  rw [Tk.Ax_Aw]
  exact sumN_congr fun j hj => by rw [hM j hj]
/-- at most one plan with weights on a lot -/
theorem Tk.lot_uni (ok : t.Ok) (hI : t.Ind l) (hU : ∀ i, i ∉ l → U i = 0) (hM : ∀ j, j < t.n → t.Mx x j = t.Aw U j) (hA : ∀ i ∈ l, t.Ax x i = 0) : (∀ j, j < t.n → x j = 0) ∧ ∀ i, U i = 0 := by
  have h0 : (sumN t.n fun j => x j * t.Mx x j) = 0 := by
    rw [Tk.quad_lot hM]
    refine sumN_zero fun i _ => ?_
    by_cases h : i ∈ l
    · rw [hA i h]; grind
    · rw [hU i h]; grind
  have hx := Tk.quad_zero ok (by rw [h0]; exact Rat.le_refl)
  refine ⟨hx, hI U hU fun j hj => ?_⟩
  rw [← hM j hj]
  exact sumN_zero fun i hi => by rw [hx i hi]; grind
end
end PX

namespace PX
open PySem L2 DL PG
/-! ### sizes through a table with a wide side -/
def CD2 (n m b c : Nat) (T : Tab) : Prop := ∃ (d e : Int) (a u : Nat → Nat → Int), d ≠ 0 ∧ d.natAbs < 2 ^ b ∧ e ≠ 0 ∧ e.natAbs < 2 ^ c ∧ (∀ i j, i < n → j < n → (a i j).natAbs < 2 ^ b ∧ T i j = Rat.divInt (a i j) d) ∧
  ∀ i s, i < n → s < m → (u i s).natAbs < 2 ^ (b + c) ∧ T i (n + s) = Rat.divInt (u i s) (d * e)
theorem CD2.sz {n m b c : Nat} {T : Tab} (h : CD2 n m b c T) : TSz n (n + m) (b + c) T := fun i j hi hj => by
  obtain ⟨d, e, a, u, d0, d1, e0, e1, h2, h3⟩ := h
  by_cases hjn : j < n
  · obtain ⟨h4, h5⟩ := h2 i j hi hjn
    rw [h5]
    exact (Sz.divInt h4 d1 d0).mono (by omega)
  · obtain ⟨s, rfl⟩ : ∃ s, j = n + s := ⟨j - n, by omega⟩
    obtain ⟨h4, h5⟩ := h3 i s hi (by omega)
    rw [h5]
    refine Sz.divInt h4 ?_ (Int.mul_ne_zero d0 e0)
    rw [Int.natAbs_mul, Nat.pow_add]
    exact Nat.mul_lt_mul'' d1 e1
theorem CD2.swap {n m b c k p : Nat} {T : Tab} (h : CD2 n m b c T) (hk : k < n) (hp : p < n) : CD2 n m b c (swapR T k p) := by
  obtain ⟨d, e, a, u, d0, d1, e0, e1, h2, h3⟩ := h
  refine ⟨d, e, fun i => if i = p then a k else if i = k then a p else a i, fun i => if i = p then u k else if i = k then u p else u i, d0, d1, e0, e1, fun i j hi hj => ?_, fun i j hi hj => ?_⟩
  · unfold swapR
    by_cases q1 : i = p
    · simp only [q1, if_true]
      exact h2 k j hk hj
    · by_cases q2 : i = k
      · simp only [q1, q2, if_false, if_true]
        split
        · exact h2 k j hk hj
        · exact h2 p j hp hj
      · simp only [q1, q2, if_false]
        exact h2 i j hi hj
  · unfold swapR
    by_cases q1 : i = p
    · simp only [q1, if_true]
      exact h3 k j hk hj
    · by_cases q2 : i = k
      · simp only [q1, q2, if_false, if_true]
        split
        · exact h3 k j hk hj
        · exact h3 p j hp hj
      · simp only [q1, q2, if_false]
        exact h3 i j hi hj
theorem pow2b (b : Nat) : 2 ^ (2 * b + 1) = 2 * (2 ^ b * 2 ^ b) := by rw [Nat.pow_succ, Nat.two_mul, Nat.pow_add, Nat.mul_comm]
theorem pow2bc (b c : Nat) : 2 ^ (2 * b + 1 + c) = 2 * (2 ^ (b + c) * 2 ^ b) := by
  rw [Nat.pow_add, pow2b, Nat.pow_add]
  simp only [Nat.mul_assoc, Nat.mul_comm, Nat.mul_left_comm]
theorem CD2.step {n m b c k p : Nat} {T : Tab} (h : CD2 n m b c T) (hk : k < n) (hp : p < n) (h0 : T p k ≠ 0) : CD2 n m (2 * b + 1) c (stepR T k p) := by
  obtain ⟨d, e, a, u, d0, d1, e0, e1, h2, h3⟩ := h.swap hk hp
  have hT : swapR T k p k = T p := by
    unfold swapR
    by_cases q : k = p
    · subst q; simp
    · simp [q]
  have q0 : swapR T k p k k = Rat.divInt (a k k) d := (h2 k k hk hk).2
  have hP : a k k ≠ 0 := fun z => by
    rw [hT, z, Rat.zero_divInt] at q0
    exact h0 q0
  have dQ : (d : Rat) ≠ 0 := fun z => d0 (by exact_mod_cast z)
  have eQ : (e : Rat) ≠ 0 := fun z => e0 (by exact_mod_cast z)
  have pQ : ((a k k : Int) : Rat) ≠ 0 := fun z => hP (by exact_mod_cast z)
  have m4 := (h2 k k hk hk).1
  refine ⟨d * a k k, e, fun i j => if i = k then a k j * d else a i j * a k k - a i k * a k j, fun i j => if i = k then u k j * d else u i j * a k k - a i k * u k j, Int.mul_ne_zero d0 hP, ?_, e0, e1, fun i j hi hj => ?_, fun i j hi hj => ?_⟩
  · rw [Int.natAbs_mul, pow2b]
    have := Nat.mul_lt_mul'' d1 m4
    omega
  · obtain ⟨m1, q1⟩ := h2 k j hk hj
    obtain ⟨m2, q2⟩ := h2 i j hi hj
    obtain ⟨m3, q3⟩ := h2 i k hi hk
    rw [pow2b]
    unfold stepR elimR normR
    by_cases q : i = k
    · simp only [q, if_true]
      refine ⟨?_, ?_⟩
      · rw [Int.natAbs_mul]
        have := Nat.mul_lt_mul'' m1 d1
        omega
      · rw [q1, q0]
        simp only [Rat.divInt_eq_div, Rat.intCast_mul]
        generalize (d : Rat) = x at *
        generalize ((a k k : Int) : Rat) = y at *
        generalize ((a k j : Int) : Rat) = z at *
        grind
    · simp only [q, if_false, if_true]
      refine ⟨?_, ?_⟩
      · have n1 := Nat.mul_lt_mul'' m2 m4
        have n2 := Nat.mul_lt_mul'' m3 m1
        have n3 := Int.natAbs_sub_le (a i j * a k k) (a i k * a k j)
        rw [Int.natAbs_mul, Int.natAbs_mul] at n3
        omega
      · rw [q1, q2, q3, q0]
        simp only [Rat.divInt_eq_div, Rat.intCast_mul, Rat.intCast_sub]
        generalize (d : Rat) = x at *
        generalize ((a k k : Int) : Rat) = y at *
        generalize ((a k j : Int) : Rat) = z at *
        generalize ((a i j : Int) : Rat) = u at *
        generalize ((a i k : Int) : Rat) = v at *
        grind
  · obtain ⟨m1, q1⟩ := h3 k j hk hj
    obtain ⟨m2, q2⟩ := h3 i j hi hj
    obtain ⟨m3, q3⟩ := h2 i k hi hk
    rw [pow2bc]
    unfold stepR elimR normR
    by_cases q : i = k
    · simp only [q, if_true]
      refine ⟨?_, ?_⟩
      · rw [Int.natAbs_mul]
        have := Nat.mul_lt_mul'' m1 d1
        omega
      · rw [q1, q0]
        simp only [Rat.divInt_eq_div, Rat.intCast_mul]
        generalize (d : Rat) = x at *
        generalize (e : Rat) = w at *
        generalize ((a k k : Int) : Rat) = y at *
        generalize ((u k j : Int) : Rat) = z at *
        grind
    · simp only [q, if_false, if_true]
      refine ⟨?_, ?_⟩
      · have n1 := Nat.mul_lt_mul'' m2 m4
        have n2 := Nat.mul_lt_mul'' m3 m1
        have n3 := Int.natAbs_sub_le (u i j * a k k) (a i k * u k j)
        rw [Int.natAbs_mul, Int.natAbs_mul] at n3
        rw [Nat.mul_comm (2 ^ b)] at n2
        omega
      · rw [q1, q2, q3, q0]
        simp only [Rat.divInt_eq_div, Rat.intCast_mul, Rat.intCast_sub]
        generalize (d : Rat) = x at *
        generalize (e : Rat) = w at *
        generalize ((a k k : Int) : Rat) = y at *
        generalize ((u k j : Int) : Rat) = z at *
        generalize ((u i j : Int) : Rat) = u at *
        generalize ((a i k : Int) : Rat) = v at *
        grind
def bb (a : Nat) : Nat := 11 * 2 ^ a - 1
theorem bb_succ (a : Nat) : bb (a + 1) = 2 * bb a + 1 := by
  unfold bb
  have : 0 < 2 ^ a := Nat.pos_of_ne_zero (by simp)
  rw [Nat.pow_succ]
  omega
theorem bb_le {a b : Nat} (h : a ≤ b) : bb a ≤ bb b := by
  unfold bb
  have := Nat.pow_le_pow_right (n := 2) (by decide) h
  omega
theorem bb_0 : bb 0 = 10 := rfl
theorem szI_cd2 {n m c : Nat} (hn : n ≤ 13) (hc : c ≤ 30000000) : SzI n (n + m) (fun a T => CD2 n m (bb a) c T) (fun a => bb a + c) where
  sz := fun _ _ h => h.sz
  step := fun a p T ha _ hp h0 h => by rw [bb_succ]; exact h.step ha hp h0
  small := fun a ha => by
    have h1 := bb_le (show a ≤ 13 by omega)
    have h2 : bb 13 = 90111 := by decide
    omega
theorem di1 (i : Int) : Rat.divInt i 1 = (i : Rat) := by
  rw [Rat.divInt_eq_div]
  show (i : Rat) / 1 = i
  grind
/-! ### plans and weights of a lot -/
section
variable {t : Tk} {l : List Nat}
def kR (t : Tk) (l : List Nat) : Tab := fun i j => if i < t.n then (if j < t.n then (t.M i j : Rat) else -(t.A (at0 l (j - t.n)) i : Rat)) else if j < t.n then (t.A (at0 l (i - t.n)) j : Rat) else 0
theorem kR_top (hn : l.Nodup) (hl : ∀ i ∈ l, i < t.h) {z : Nat → Rat} {i : Nat} (hi : i < t.n) : sumN (t.n + l.length) (fun j => kR t l i j * z j) = t.Mx z i - t.Aw (byRow l fun r => z (t.n + r)) i := by
  rw [sumN_split, Tk.Aw_lot hn hl fun i h => byRow_no h]
  have e1 : (sumN t.n fun j => kR t l i j * z j) = t.Mx z i := sumN_congr fun j hj => by
    unfold kR
    rw [if_pos hi, if_pos hj]
  have e2 : (sumN l.length fun j => kR t l i (t.n + j) * z (t.n + j)) = - sumN l.length fun s => (t.A (at0 l s) i : Rat) * byRow l (fun r => z (t.n + r)) (at0 l s) := by
    rw [← sumN_neg]
    refine sumN_congr fun j hj => ?_
    unfold kR
    rw [if_pos hi, if_neg (by omega), byRow_at hn hj, Nat.add_sub_cancel_left]
    grind
  rw [e1, e2]
  grind
theorem kR_low {z : Nat → Rat} {r : Nat} : sumN (t.n + l.length) (fun j => kR t l (t.n + r) j * z j) = t.Ax z (at0 l r) := by
  rw [sumN_split]
  have e1 : (sumN t.n fun j => kR t l (t.n + r) j * z j) = t.Ax z (at0 l r) := sumN_congr fun j hj => by
    unfold kR
    rw [if_neg (by omega), if_pos hj, Nat.add_sub_cancel_left]
  have e2 : (sumN l.length fun j => kR t l (t.n + r) (t.n + j) * z (t.n + j)) = 0 := sumN_zero fun j hj => by
    unfold kR
    rw [if_neg (by omega), if_neg (by omega)]
    grind
  rw [e1, e2]
  grind
/-- what solving for a lot tells: s-th side, S s on the columns, S s (n + r) on the r-th row of the lot -/
structure SolAt (t : Tk) (l : List Nat) (P : Nat) (S : Nat → Rat) (x U : Nat → Rat) : Prop where
  no : ∀ i, i ∉ l → U i = 0
  top : ∀ i, i < t.n → t.Mx x i = t.Aw U i + S i
  low : ∀ r, r < l.length → t.Ax x (at0 l r) = S (t.n + r)
  sx : ∀ j, j < t.n → Sz P (x j)
  sU : ∀ i, Sz P (U i)
def SolK (t : Tk) (l : List Nat) (m P : Nat) (S : Tab) (d : D) : Prop := (d = .none ∧ ¬ t.Ind l) ∨
  (t.Ind l ∧ ∃ x U : Tab, d = .list (vecF m fun s => vL (t.n + l.length) fun j => if j < t.n then x s j else U s (at0 l (j - t.n))) ∧ ∀ s, s < m → SolAt t l P (S s) (x s) (U s))
theorem solK_of (ok : t.Ok) (hn : l.Nodup) (hl : ∀ i ∈ l, i < t.h) {m P : Nat} (hm : 0 < m) (hP : 1 ≤ P) {S : Tab} {d : D} (h : SolvedG (t.n + l.length) m P (kR t l) S d) : SolK t l m P S d := by
  rcases h with ⟨rfl, z, ⟨j, hj, hz⟩, h1⟩ | ⟨X, rfl, h1, h2⟩
  · refine .inl ⟨rfl, fun hI => ?_⟩
    have hu := Tk.lot_uni (x := z) ok hI (U := byRow l fun r => z (t.n + r)) (fun i h => byRow_no h) (fun i hi => by
      have := h1 i (by omega)
      rw [kR_top hn hl hi] at this
      grind) fun i hi => by
      obtain ⟨r, hr, e⟩ := List.getElem_of_mem hi
      have := h1 (t.n + r) (by omega)
      rw [kR_low] at this
      have e2 : at0 l r = i := by
        unfold at0
        rw [List.getD_eq_getElem?_getD, List.getElem?_eq_getElem hr, ← e]
        rfl
      rw [e2] at this
      exact this
    by_cases hjn : j < t.n
    · exact hz (hu.1 j hjn)
    · have := hu.2 (at0 l (j - t.n))
      rw [byRow_at hn (by omega), show t.n + (j - t.n) = j by omega] at this
      exact hz this
  · have sol : ∀ s, s < m → ∀ i, i < t.n + l.length → sumN (t.n + l.length) (fun j => kR t l i j * X s j) = S s i := fun s hs => (h1 s hs (X s)).mpr fun i _ => rfl
    have hI : t.Ind l := fun U hU hA i => Classical.byContradiction fun hne => by
      have hil : i ∈ l := Classical.byContradiction fun n => hne (hU i n)
      obtain ⟨r, hr, e⟩ := List.getElem_of_mem hil
      have e2 : at0 l r = i := by
        unfold at0
        rw [List.getD_eq_getElem?_getD, List.getElem?_eq_getElem hr, ← e]
        rfl
      let z : Nat → Rat := fun j => if j < t.n then 0 else U (at0 l (j - t.n))
      have zr : ∀ k, byRow l (fun r => z (t.n + r)) k = U k := fun k => by
        by_cases hk : k ∈ l
        · unfold byRow
          rw [if_pos hk]
          show (if t.n + l.idxOf k < t.n then (0 : Rat) else U (at0 l (t.n + l.idxOf k - t.n))) = U k
          rw [if_neg (by omega), Nat.add_sub_cancel_left]
          congr 1
          have hi := List.idxOf_lt_length_of_mem hk
          unfold at0
          rw [List.getD_eq_getElem?_getD, List.getElem?_eq_getElem hi]
          show l[l.idxOf k] = k
          exact List.getElem_idxOf hi
        · rw [byRow_no hk, hU k hk]
      have z0 : ∀ j, j < t.n → z j = 0 := fun j hj => if_pos hj
      have hz : ∀ i, i < t.n + l.length → sumN (t.n + l.length) (fun j => kR t l i j * z j) = 0 := fun i hi => by
        by_cases h : i < t.n
        · rw [kR_top hn hl h, show (byRow l fun r => z (t.n + r)) = U from funext zr, hA i h]
          have : t.Mx z i = 0 := sumN_zero fun j hj => by rw [z0 j hj]; grind
          rw [this]; grind
        · obtain ⟨q, rfl⟩ : ∃ q, i = t.n + q := ⟨i - t.n, by omega⟩
          rw [kR_low]
          exact sumN_zero fun j hj => by rw [z0 j hj]; grind
      have e3 := (h1 0 hm (fun j => X 0 j + z j)).mp fun i hi => by
        have : (sumN (t.n + l.length) fun j => kR t l i j * (X 0 j + z j)) = sumN (t.n + l.length) (fun j => kR t l i j * X 0 j) + sumN (t.n + l.length) fun j => kR t l i j * z j := by
          rw [← sumN_add]
          exact sumN_congr fun j _ => by grind
        rw [this, sol 0 hm i hi, hz i hi]
        grind
      have e4 := e3 (t.n + r) (by omega)
      have e5 : z (t.n + r) = U i := by
        show (if t.n + r < t.n then (0 : Rat) else U (at0 l (t.n + r - t.n))) = U i
        rw [if_neg (by omega), Nat.add_sub_cancel_left, e2]
      rw [e5] at e4
      exact hne (by grind)
    refine .inr ⟨hI, X, fun s => byRow l fun r => X s (t.n + r), ?_, fun s hs => ⟨fun i h => byRow_no h, fun i hi => ?_, fun r hr => ?_, fun j hj => h2 s j hs (by omega), fun i => ?_⟩⟩
    · congr 1
      refine vecF_congr fun s hs => ?_
      unfold vL
      congr 1
      refine vecF_congr fun j hj => ?_
      by_cases hjn : j < t.n
      · simp only [if_pos hjn]
      · simp only [if_neg hjn]
        rw [byRow_at hn (by omega), show t.n + (j - t.n) = j by omega]
    · have := sol s hs i (by omega)
      rw [kR_top hn hl hi] at this
      grind
    · have := sol s hs (t.n + r) (by omega)
      rw [kR_low] at this
      exact this
    · show Sz P (if i ∈ l then X s (t.n + l.idxOf i) else 0)
      split
      · rename_i hi
        exact h2 s _ hs (by have := List.idxOf_lt_length_of_mem hi; omega)
      · exact sz0.mono hP
/-- a lot's equations, solved -/
theorem solved_lot (ok : t.Ok) (hn : l.Nodup) (hl : ∀ i ∈ l, i < t.h) {m c : Nat} (hm : 0 < m) (hm2 : m ≤ 1000) (hc1 : 1 ≤ c) (hc : c ≤ 30000000) {rows sides : D} {r sd : Nat → D} {S : Tab} (hr : Its rows (t.n + l.length) r)
    (hri : ∀ i, i < t.n + l.length → Its (r i) (t.n + l.length) fun j => frD (kR t l i j)) (hs : Its sides m sd) (hsi : ∀ s, s < m → Its (sd s) (t.n + l.length) fun i => frD (S s i))
    {e : Int} {u : Nat → Nat → Int} (he : e ≠ 0) (he1 : e.natAbs < 2 ^ c) (hu : ∀ s i, s < m → i < t.n + l.length → (u s i).natAbs < 2 ^ (10 + c) ∧ S s i = Rat.divInt (u s i) e) (hlen : l.length ≤ 8) :
    ∃ d, F_solved [rows, sides] = some d ∧ SolK t l m (bb (t.n + l.length) + c) S d := by
  have hn5 := ok.n5
  obtain ⟨d, h1, h2⟩ := F_solved_gen hr hri hs hsi (by omega) hm2 (szI_cd2 (m := m) (c := c) (by omega) hc) (by
    refine ⟨1, e, fun i j => if i < t.n then (if j < t.n then t.M i j else -t.A (at0 l (j - t.n)) i) else if j < t.n then t.A (at0 l (i - t.n)) j else 0, fun i s => u s i, by decide, by rw [bb_0]; decide, he, he1, fun i j hi hj => ?_, fun i s hi hs' => ?_⟩
    · simp only [if_pos hj, di1]
      have at_lt : ∀ s, s < l.length → at0 l s < t.h := fun s hs => hl _ (at0_mem hs)
      unfold kR
      by_cases h1 : i < t.n
      · by_cases h2 : j < t.n
        · simp only [if_pos h1, if_pos h2]
          exact ⟨pow10 (ok.M i j h1 h2), trivial⟩
        · simp only [if_pos h1, if_neg h2]
          refine ⟨?_, by rw [Rat.intCast_neg]⟩
          rw [Int.natAbs_neg]
          exact pow10 (ok.A _ _ (at_lt _ (by omega)) h1)
      · by_cases h2 : j < t.n
        · simp only [if_neg h1, if_pos h2]
          exact ⟨pow10 (ok.A _ _ (at_lt _ (by omega)) h2), trivial⟩
        · simp only [if_neg h1, if_neg h2]
          exact ⟨by rw [bb_0]; decide, rfl⟩
    · obtain ⟨h3, h4⟩ := hu s i hs' hi
      refine ⟨h3, ?_⟩
      show (if t.n + l.length + s < t.n + l.length then kR t l i (t.n + l.length + s) else S (t.n + l.length + s - (t.n + l.length)) i) = _
      rw [if_neg (by omega), Nat.add_sub_cancel_left, h4, Int.one_mul])
  exact ⟨d, h1, solK_of ok hn hl hm (by omega) h2⟩
end
end PX

namespace PX
open PySem L2 DL PG
/-! ### a plan that a lot of rows holds; bringing in a row -/
structure HI (t : Tk) (s : Rat) (l : List Nat) (x W : Nat → Rat) : Prop where
  nd : l.Nodup
  lt : ∀ i ∈ l, i < t.h
  ind : t.Ind l
  st : ∀ j, j < t.n → t.slope s x j = t.Aw W j
  ti : ∀ i ∈ l, t.gap s x i = 0
  no : ∀ i, i ∉ l → W i = 0
  pos : ∀ i, 0 ≤ W i
structure HB (t : Tk) (s : Rat) (l : List Nat) (x W : Nat → Rat) (y : Rat) (r : Nat) : Prop where
  nd : l.Nodup
  lt : ∀ i ∈ l, i < t.h
  ind : t.Ind l
  rl : r ∉ l
  rh : r < t.h
  st : ∀ j, j < t.n → t.slope s x j = t.Aw W j + y * (t.A r j : Rat)
  ti : ∀ i ∈ l, t.gap s x i = 0
  no : ∀ i, i ∉ l → W i = 0
  pos : ∀ i, 0 ≤ W i
  y0 : 0 ≤ y
  gr : t.gap s x r < 0
/-- the step that a further row wishes -/
structure Stp (t : Tk) (l : List Nat) (r : Nat) (m S : Nat → Rat) : Prop where
  no : ∀ i, i ∉ l → S i = 0
  top : ∀ j, j < t.n → t.Mx m j = t.Aw S j + (t.A r j : Rat)
  low : ∀ i ∈ l, t.Ax m i = 0
section
variable {t : Tk} {s : Rat} {l : List Nat} {x W m S : Nat → Rat} {y c : Rat} {r : Nat}
theorem HI.start (h : HI t s l x W) (hr : r < t.h) (hg : t.gap s x r < 0) : HB t s l x W 0 r :=
  ⟨h.nd, h.lt, h.ind, fun hm => by rw [h.ti r hm] at hg; grind, hr, fun j hj => by rw [h.st j hj]; grind, h.ti, h.no, h.pos, Rat.le_refl, hg⟩
theorem sum_A : (sumN t.n fun j => m j * (t.A r j : Rat)) = t.Ax m r := by
  unfold Tk.Ax
  exact sumN_congr fun j _ => by grind
theorem Stp.rise (h : Stp t l r m S) : (sumN t.n fun j => m j * t.Mx m j) = t.Ax m r := by
  have e : (sumN t.n fun j => m j * t.Mx m j) = sumN t.n (fun j => m j * t.Aw S j) + sumN t.n fun j => m j * (t.A r j : Rat) := by
    rw [← sumN_add]
    exact sumN_congr fun j hj => by rw [h.top j hj]; grind
  rw [e, sum_A, ← Tk.Ax_Aw]
  have : (sumN t.h fun i => t.Ax m i * S i) = 0 := sumN_zero fun i _ => by
    by_cases q : i ∈ l
    · rw [h.low i q]; grind
    · rw [h.no i q]; grind
  rw [this]
  grind
theorem Stp.rise0 (ok : t.Ok) (h : Stp t l r m S) : 0 ≤ t.Ax m r := by
  rw [← h.rise]
  exact Tk.quad_nonneg ok m
theorem Stp.still (ok : t.Ok) (h : Stp t l r m S) (h0 : t.Ax m r = 0) : ∀ j, j < t.n → m j = 0 := Tk.quad_zero ok (by rw [h.rise, h0]; exact Rat.le_refl)
theorem gap_mv {i : Nat} : t.gap s (fun j => x j + c * m j) i = t.gap s x i + c * t.Ax m i := by
  unfold Tk.gap
  rw [Tk.Ax_add, Tk.Ax_mul]
  grind
theorem slope_mv {j : Nat} : t.slope s (fun j => x j + c * m j) j = t.slope s x j + c * t.Mx m j := by
  unfold Tk.slope
  rw [Tk.Mx_add, Tk.Mx_mul]
  grind
theorem HB.st_mv (h : HB t s l x W y r) (q : Stp t l r m S) {j : Nat} (hj : j < t.n) : t.slope s (fun j => x j + c * m j) j = t.Aw (fun i => W i + c * S i) j + (y + c) * (t.A r j : Rat) := by
  rw [slope_mv, h.st j hj, q.top j hj, Tk.Aw_add, Tk.Aw_mul]
  grind
theorem HB.worth_mv (ok : t.Ok) (h : HB t s l x W y r) (q : Stp t l r m S) : t.worth s (fun j => x j + c * m j) = t.worth s x + c * (y * t.Ax m r) + c * c / 2 * t.Ax m r := by
  have e1 : t.worth s (fun j => x j + c * m j) = t.worth s x + c * (sumN t.n fun j => m j * t.slope s x j) + c * c / 2 * sumN t.n fun j => m j * t.Mx m j := by
    have sy := Tk.Mx_sym (t := t) (X := x) (Y := m) ok
    have : (sumN t.n fun j => m j * t.slope s x j) = sumN t.n (fun j => m j * (t.Mx x j / 2 + t.cost s j)) + (1 / 2) * sumN t.n fun j => m j * t.Mx x j := by
      rw [← sumN_mul, ← sumN_add]
      exact sumN_congr fun j _ => by unfold Tk.slope; grind
    rw [this]
    unfold Tk.worth
    have e2 : (sumN t.n fun j => (x j + c * m j) * (t.Mx (fun j => x j + c * m j) j / 2 + t.cost s j)) = sumN t.n (fun j => x j * (t.Mx x j / 2 + t.cost s j)) + c * sumN t.n (fun j => m j * (t.Mx x j / 2 + t.cost s j)) + (c / 2) * sumN t.n (fun j => x j * t.Mx m j) + c * c / 2 * sumN t.n fun j => m j * t.Mx m j := by
      rw [← sumN_mul, ← sumN_mul, ← sumN_mul, ← sumN_add, ← sumN_add, ← sumN_add]
      refine sumN_congr fun j _ => ?_
      rw [Tk.Mx_add, Tk.Mx_mul]
      grind
    rw [e2, sy]
    grind
  rw [e1, q.rise]
  have e3 : (sumN t.n fun j => m j * t.slope s x j) = y * t.Ax m r := by
    have : (sumN t.n fun j => m j * t.slope s x j) = sumN t.n (fun j => m j * t.Aw W j) + y * sumN t.n fun j => m j * (t.A r j : Rat) := by
      rw [← sumN_mul, ← sumN_add]
      exact sumN_congr fun j hj => by rw [h.st j hj]; grind
    rw [this, sum_A, ← Tk.Ax_Aw]
    have : (sumN t.h fun i => t.Ax m i * W i) = 0 := sumN_zero fun i _ => by
      by_cases z : i ∈ l
      · rw [q.low i z]; grind
      · rw [h.no i z]; grind
    rw [this]
    grind
  rw [e3]
/-- weights that bar -/
def barW (S : Nat → Rat) (r : Nat) : Nat → Rat := fun i => if i = r then 1 else S i
theorem HB.bars (ok : t.Ok) (h : HB t s l x W y r) (q : Stp t l r m S) (h0 : t.Ax m r = 0) (hS : ∀ i, 0 ≤ S i) : t.Bars s (barW S r) := by
  have hm := q.still ok h0
  have hAw : ∀ j, j < t.n → t.Aw S j + (t.A r j : Rat) = 0 := fun j hj => by
    rw [← q.top j hj]
    exact sumN_zero fun i hi => by rw [hm i hi]; grind
  have hb : ∀ (f : Nat → Rat), (sumN t.h fun i => f i * barW S r i) = sumN t.h (fun i => f i * S i) + f r := fun f => by
    have : (sumN t.h fun i => f i * barW S r i) = sumN t.h (fun i => f i * S i) + sumN t.h fun i => if i = r then f r else 0 := by
      rw [← sumN_add]
      refine sumN_congr fun i _ => ?_
      unfold barW
      by_cases e : i = r
      · rw [if_pos e, if_pos e, e, q.no r h.rl]; grind
      · rw [if_neg e, if_neg e]; grind
    rw [this]
    congr 1
    refine (sumN_one (f := fun i => if i = r then f r else 0) (a := r) h.rh (fun i _ e => if_neg e)).trans (if_pos rfl)
  refine ⟨fun i _ => ?_, fun j hj => ?_, ?_⟩
  · unfold barW
    split
    · decide
    · exact hS i
  · have := hb fun i => (t.A i j : Rat)
    unfold Tk.Aw
    rw [this]
    exact hAw j hj
  · unfold Tk.lim
    rw [hb fun i => t.right s i]
    have e1 : (sumN t.h fun i => t.right s i * S i) = sumN t.h fun i => t.Ax x i * S i := sumN_congr fun i _ => by
      by_cases z : i ∈ l
      · have := h.ti i z
        unfold Tk.gap at this
        have e : t.right s i = t.Ax x i := by grind
        rw [e]
      · rw [q.no i z]; grind
    have e2 : (sumN t.n fun j => x j * t.Aw S j) = - t.Ax x r := by
      rw [← sum_A, ← sumN_neg]
      refine sumN_congr fun j hj => ?_
      have := hAw j hj
      have e : t.Aw S j = -(t.A r j : Rat) := by grind
      rw [e]
      grind
    rw [e1, Tk.Ax_Aw, e2]
    have := h.gr
    unfold Tk.gap at this
    grind
/-- a row that is not among those that hold, and moves when they stand, does not lean on them -/
theorem Stp.ind (h : Stp t l r m S) (hI : t.Ind l) (hr : r < t.h) (h0 : t.Ax m r ≠ 0) : t.Ind (l ++ [r]) := fun U hU hA => by
  have e : (sumN t.h fun i => t.Ax m i * U i) = t.Ax m r * U r := by
    refine (sumN_one (a := r) hr fun i _ ne => ?_)
    by_cases z : i ∈ l
    · rw [h.low i z]; grind
    · rw [hU i (by simp [z, ne])]; grind
  rw [Tk.Ax_Aw, sumN_zero fun j hj => by rw [hA j hj]; grind] at e
  have hUr : U r = 0 := by
    rcases Rat.mul_eq_zero.mp e.symm with z | z
    · exact absurd z h0
    · exact z
  exact hI U (fun i hi => by
    by_cases z : i = r
    · rw [z]; exact hUr
    · exact hU i (by simp [hi, z])) hA
/-- the step goes all the way: the row holds -/
def addW (W : Nat → Rat) (r : Nat) (y : Rat) : Nat → Rat := fun i => if i = r then y else W i
theorem HB.full (ok : t.Ok) (h : HB t s l x W y r) (q : Stp t l r m S) (h0 : 0 < t.Ax m r) (hc : c = (0 - t.gap s x r) / t.Ax m r) (hS : ∀ i ∈ l, S i < 0 → c ≤ W i / (-S i)) :
    HI t s (l ++ [r]) (fun j => x j + c * m j) (addW (fun i => W i + c * S i) r (y + c)) ∧ t.worth s x < t.worth s (fun j => x j + c * m j) := by
  have c0 : 0 < c := by
    rw [hc]
    have := h.gr
    rw [Rat.div_def]
    exact Rat.mul_pos (by grind) (Rat.inv_pos.mpr h0)
  have ne : t.Ax m r ≠ 0 := by grind
  have sp : ∀ i, 0 ≤ W i + c * S i := fun i => by
    by_cases z : i ∈ l
    · by_cases q2 : S i < 0
      · have h1 := hS i z q2
        have h2 : 0 < -S i := by grind
        have h3 : c * (-S i) ≤ W i := by
          have := Rat.mul_le_mul_of_nonneg_right h1 (Rat.le_of_lt h2)
          have e : W i / (-S i) * (-S i) = W i := Rat.div_mul_cancel (by grind)
          rw [e] at this
          exact this
        grind
      · have h1 := h.pos i
        have h2 : 0 ≤ S i := by grind
        have h3 := Rat.mul_nonneg (Rat.le_of_lt c0) h2
        grind
    · rw [q.no i z, h.no i z]; grind
  have wr : W r + c * S r = 0 := by rw [q.no r h.rl, h.no r h.rl]; grind
  refine ⟨⟨?_, fun i hi => ?_, q.ind h.ind h.rh ne, fun j hj => ?_, fun i hi => ?_, fun i hi => ?_, fun i => ?_⟩, ?_⟩
  · refine List.nodup_append.mpr ⟨h.nd, by simp, fun a ha b hb e => ?_⟩
    rw [List.mem_singleton.mp hb] at e
    exact h.rl (e ▸ ha)
  · rcases List.mem_append.mp hi with z | z
    · exact h.lt i z
    · rw [List.mem_singleton.mp z]; exact h.rh
  · rw [h.st_mv q hj]
    have : t.Aw (addW (fun i => W i + c * S i) r (y + c)) j = t.Aw (fun i => W i + c * S i) j + (y + c) * (t.A r j : Rat) := by
      have e : t.Aw (addW (fun i => W i + c * S i) r (y + c)) j = t.Aw (fun i => W i + c * S i) j + sumN t.h fun i => if i = r then (t.A r j : Rat) * (y + c) else 0 := by
        unfold Tk.Aw
        rw [← sumN_add]
        refine sumN_congr fun i _ => ?_
        unfold addW
        by_cases z : i = r
        · rw [if_pos z, if_pos z, z]
          show _ = (t.A r j : Rat) * (W r + c * S r) + _
          rw [wr]; grind
        · rw [if_neg z, if_neg z]; grind
      rw [e, sumN_one (a := r) h.rh (fun i _ z => by rw [if_neg z]), if_pos rfl]
      grind
    rw [this]
  · rw [gap_mv]
    rcases List.mem_append.mp hi with z | z
    · rw [h.ti i z, q.low i z]; grind
    · rw [List.mem_singleton.mp z, hc, Rat.div_mul_cancel ne]; grind
  · have z1 : i ∉ l := fun z => hi (List.mem_append_left _ z)
    have z2 : i ≠ r := fun z => hi (List.mem_append_right _ (by simp [z]))
    unfold addW
    rw [if_neg z2]
    show W i + c * S i = 0
    rw [h.no i z1, q.no i z1]
    grind
  · unfold addW
    split
    · have := h.y0
      grind
    · exact sp i
  · rw [h.worth_mv ok q]
    have h1 := h.y0
    have h2 : 0 ≤ c * (y * t.Ax m r) := Rat.mul_nonneg (Rat.le_of_lt c0) (Rat.mul_nonneg h1 (Rat.le_of_lt h0))
    have h3 : 0 < c * c / 2 * t.Ax m r := Rat.mul_pos (by
      have := Rat.mul_pos c0 c0
      grind) h0
    grind
/-- a row that holds goes first -/
theorem HB.drop (ok : t.Ok) (h : HB t s l x W y r) (q : Stp t l r m S) {o k : Nat} (hk : k < l.length) (ho : at0 l k = o) (hSo : S o < 0) (hc : c = W o / (-S o)) (hS : ∀ i ∈ l, S i < 0 → c ≤ W i / (-S i))
    (hf : 0 < t.Ax m r → c < (0 - t.gap s x r) / t.Ax m r) :
    HB t s (l.eraseIdx k) (fun j => x j + c * m j) (fun i => W i + c * S i) (y + c) r ∧ t.worth s x ≤ t.worth s (fun j => x j + c * m j) := by
  have hol : o ∈ l := ho ▸ at0_mem hk
  have d0 : 0 < -S o := by grind
  have c0 : 0 ≤ c := by
    rw [hc, Rat.div_def]
    exact Rat.mul_nonneg (h.pos o) (Rat.le_of_lt (Rat.inv_pos.mpr d0))
  have sp : ∀ i, 0 ≤ W i + c * S i := fun i => by
    by_cases z : i ∈ l
    · by_cases q2 : S i < 0
      · have h1 := hS i z q2
        have h2 : 0 < -S i := by grind
        have h3 : c * (-S i) ≤ W i := by
          have := Rat.mul_le_mul_of_nonneg_right h1 (Rat.le_of_lt h2)
          have e : W i / (-S i) * (-S i) = W i := Rat.div_mul_cancel (by grind)
          rw [e] at this
          exact this
        grind
      · have h1 := h.pos i
        have h2 : 0 ≤ S i := by grind
        have h3 := Rat.mul_nonneg c0 h2
        grind
    · rw [q.no i z, h.no i z]; grind
  have wo : W o + c * S o = 0 := by
    have e : W o / (-S o) * (-S o) = W o := Rat.div_mul_cancel (by grind)
    rw [← hc] at e
    grind
  have sub : ∀ i, i ∈ l.eraseIdx k → i ∈ l := fun i hi => List.mem_of_mem_eraseIdx hi
  have back : ∀ i, i ∈ l → i ≠ o → i ∈ l.eraseIdx k := fun i hi ne => by
    obtain ⟨a, ha, e⟩ := List.getElem_of_mem hi
    rw [List.mem_eraseIdx_iff_getElem]
    refine ⟨a, ha, fun z => ne ?_, e⟩
    rw [← ho, ← e]
    subst z
    unfold at0
    rw [List.getD_eq_getElem?_getD, List.getElem?_eq_getElem ha]
    rfl
  have no' : ∀ i, i ∉ l.eraseIdx k → W i + c * S i = 0 := fun i hi => by
    by_cases z : i = o
    · rw [z]; exact wo
    · have z2 : i ∉ l := fun z3 => hi (back i z3 z)
      rw [h.no i z2, q.no i z2]; grind
  refine ⟨⟨h.nd.sublist (List.eraseIdx_sublist ..), fun i hi => h.lt i (sub i hi), fun U hU hA => h.ind U (fun i hi => hU i fun z => hi (sub i z)) hA, fun z => h.rl (sub r z), h.rh, fun j hj => h.st_mv q hj, fun i hi => ?_, no', sp, ?_, ?_⟩, ?_⟩
  · rw [gap_mv, h.ti i (sub i hi), q.low i (sub i hi)]; grind
  · have := h.y0
    grind
  · rw [gap_mv]
    have h1 := q.rise0 ok
    have hg := h.gr
    by_cases z : 0 < t.Ax m r
    · have h2 := hf z
      have h3 := Rat.mul_lt_mul_of_pos_right h2 z
      rw [Rat.div_mul_cancel (by grind)] at h3
      grind
    · have : t.Ax m r = 0 := by grind
      rw [this]
      grind
  · rw [h.worth_mv ok q]
    have h1 := q.rise0 ok
    have h2 : 0 ≤ c * (y * t.Ax m r) := Rat.mul_nonneg c0 (Rat.mul_nonneg h.y0 h1)
    have h3 : 0 ≤ c * c / 2 * t.Ax m r := Rat.mul_nonneg (by
      have := Rat.mul_nonneg c0 c0
      grind) h1
    grind
end
end PX

namespace PX
open PySem L2 DL PG
/-! ### evaluation: borrowed things, enumerate over zip -/
def borS : Sl → Option D
  | .o ds => some (.list ds)
  | .b d => some d
  | _ => none
@[simp] theorem borS_b {d : D} : borS (.b d) = some d := (rfl)
@[simp] theorem borS_o {d : List D} : borS (.o d) = some (.list d) := (rfl)
section
variable {ρ : Ev} {i : Nat} {f f2 : MM D} {fl : MM (List Sl)}
@[simp] theorem e_consB : mConsB f fl ρ = bnd (f ρ) fun a r => bnd (fl (ρ.wr r)) fun l r2 => some (Sl.b a :: l, r2) := by
  show mBind f _ ρ = _
  simp
  rfl
@[simp] theorem e_consBor : mConsBor i fl ρ = bnd (mO (borS (ρ.get i)) ρ) fun a r => bnd (fl (ρ.wr r)) fun l r2 => some (Sl.b a :: l, r2) := by
  unfold mConsBor
  cases e : ρ.get i with
  | o ds =>
    simp
    rfl
  | b d =>
    simp
    rfl
  | _ => rfl
@[simp] theorem e_ez : mEz f f2 ρ = bnd (f ρ) fun a r => bnd (f2 (ρ.wr r)) fun b r2 => mO (ezD a b) ((ρ.wr r).wr r2) := by
  show mBind f _ ρ = _
  simp
end
theorem slS_b {d : D} : slS (.b d) = none := rfl
/-! ### lots as lists -/
def lotV (l : List Nat) : List D := l.map fun i => .int (i : Nat)
def wV (l : List Nat) (W : Nat → Rat) : List D := l.map fun i => frD (W i)
theorem map_vec {α : Type} (l : List Nat) (f : Nat → α) : l.map f = vecF l.length fun s => f (at0 l s) := vecF_ext (by simp) fun i hi => by
  rw [List.getElem?_map, List.getElem?_eq_getElem hi]
  show some (f l[i]) = some (f (l.getD i 0))
  rw [List.getD_eq_getElem?_getD, List.getElem?_eq_getElem hi]
  rfl
theorem lotV_vec (l : List Nat) : lotV l = vecF l.length fun s => .int (at0 l s : Nat) := map_vec l _
theorem wV_vec (l : List Nat) (W : Nat → Rat) : wV l W = vecF l.length fun s => frD (W (at0 l s)) := map_vec l _
@[simp] theorem lotV_len (l : List Nat) : (lotV l).length = l.length := by simp [lotV]
@[simp] theorem wV_len (l : List Nat) (W : Nat → Rat) : (wV l W).length = l.length := by simp [wV]
/-- a lot: a list, a tuple -/
def IsLot (d : D) (l : List Nat) : Prop := Its d l.length fun s => .int (at0 l s : Nat)
theorem isLot_l (l : List Nat) : IsLot (.list (lotV l)) l := by
  show some (lotV l) = _
  rw [lotV_vec]
theorem isLot_t (l : List Nat) : IsLot (.tuple (lotV l)) l := by
  show some (lotV l) = _
  rw [lotV_vec]
theorem d_cat {xs ys : List D} (h : xs.length + ys.length ≤ 1000000) : dCat (.list xs) (.list ys) = some (xs ++ ys) := if_pos h
theorem d_rep {x : D} {k : Nat} (h : k ≤ 1000) : dRep (.list [x]) (.int (k : Nat)) = some (vecF k fun _ => x) := by
  show (if 0 ≤ (k : Int) ∧ (k : Int) ≤ 1000 ∧ [x].length ≤ 1000 then some (List.replicate (k : Int).toNat [x]).flatten else none) = _
  rw [if_pos ⟨by omega, by omega, by simp⟩, Int.toNat_natCast, flat_rep]
section
variable {t : Tk} {l : List Nat} {xl : Sl} {dl : D} {w : DL.Row}
theorem frD_i (i : Int) : (PyData.tuple [.int i, .int 1] : D) = frD (i : Rat) := rfl
theorem frD_n : (PyData.tuple [.int 0, .int 1] : D) = frD 0 := rfl
theorem kR_n {r j : Nat} : kR t l (t.n + r) j = if j < t.n then (t.A (at0 l r) j : Rat) else 0 := by
  unfold kR
  rw [if_neg (show ¬ t.n + r < t.n by omega), Nat.add_sub_cancel_left]
theorem G_held_table (ok : t.Ok) (hl : ∀ i ∈ l, i < t.h) (hlen : l.length ≤ 8) (hx : IsLot dl l) (h1 : slB xl = some dl) (h2 : slL xl = some dl) :
    runDef g_held_table 2 7 [.s t.dat, xl] w = some (.list (vecF (t.n + l.length) fun i => vL (t.n + l.length) (kR t l i)), w) := by
  have hn := ok.n5
  have at_lt : ∀ s, s < l.length → at0 l s < t.h := fun s hs => hl _ (at0_mem hs)
  obtain ⟨d, w', e, rfl, rfl⟩ := def_wp (g := g_held_table) (n := 2) (N := 7) (as := [.s t.dat, xl]) (w := w) (P := fun d w' => d = .list (vecF (t.n + l.length) fun i => vL (t.n + l.length) (kR t l i)) ∧ w' = w) rfl (by
    unfold g_held_table
    simp [d_range (show t.n ≤ 1000000 by omega)]
    refine wp_thn (fun ρ => ∃ s4 s5 s6, ρ = ⟨w, [.s t.dat, xl, .s (.int t.n), .o (vecF t.n fun i => vL (t.n + l.length) (kR t l i)), s4, s5, s6]⟩) ?_ ?_
    · refine wp_for (fun i ρ => ∃ s4 s5 s6, ρ = ⟨w, [.s t.dat, xl, .s (.int t.n), .o (vecF i fun i => vL (t.n + l.length) (kR t l i)), s4, s5, s6]⟩) ⟨_, _, _, rfl⟩ ?_ ?_
      · rintro i ρ hi ⟨s4, s5, s6, rfl⟩
        simp [ix_its its_sq hi, lst_its (show t.n ≤ 1000000 by omega)]
        rw [lcGo_vec (φ := fun j => frD (t.M i j : Rat))]
        · have hd : dItems dl = _ := hx
          simp [h1, hd, lst_its (show l.length ≤ 1000000 by omega)]
          rw [lcGo_vec (φ := fun r => frD (-(t.A (at0 l r) i : Rat)))]
          · have e6 : apO (.o (vecF i fun i => vL (t.n + l.length) (kR t l i))) (.list ((vecF t.n fun j => frD (t.M i j : Rat)) ++ vecF l.length fun r => frD (-(t.A (at0 l r) i : Rat)))) = some (.o (vecF (i + 1) fun i => vL (t.n + l.length) (kR t l i))) := by
              rw [ap_o (by simp; omega), vecF_succ, vecF_append]
              congr 4
              unfold vL
              congr 1
              refine vecF_congr fun j hj => ?_
              unfold kR
              rw [if_pos hi]
              by_cases hjn : j < t.n
              · rw [if_pos hjn, if_pos hjn]
              · rw [if_neg hjn, if_neg hjn]
            simp [d_cat (xs := vecF t.n fun j => frD (t.M i j : Rat)) (ys := vecF l.length fun r => frD (-(t.A (at0 l r) i : Rat))) (by simp; omega), e6]
            exact wp_some ⟨_, _, _, rfl⟩
          · intro r hr
            refine ⟨⟨w, [.s t.dat, xl, .s (.int t.n), .o (vecF i fun i => vL (t.n + l.length) (kR t l i)), .s (.int i), .s (.int (at0 l r : Nat)), s6]⟩, ?_, rfl, ?_⟩
            · simp [Ev.wipe, wipeS]
            · simp [ix_its its_rows (at_lt r hr), ix_its (its_iT (v := t.A (at0 l r))) hi]
              rw [← Rat.intCast_neg, frD_int]
        · intro j hj
          refine ⟨⟨w, [.s t.dat, xl, .s (.int t.n), .o (vecF i fun i => vL (t.n + l.length) (kR t l i)), .s (.int i), s5, .s (.int (t.M i j))]⟩, ?_, rfl, ?_⟩
          · simp [Ev.wipe, wipeS]
          · simp
            rfl
      · rintro ρ h
        exact h
    · rintro ρ ⟨s4, s5, s6, rfl⟩
      have hd : dItems dl = _ := hx
      simp [h2, hd]
      refine wp_thn (fun ρ => ∃ s4 s5 s6, ρ = ⟨w, [.s t.dat, xl, .s (.int t.n), .o (vecF (t.n + l.length) fun i => vL (t.n + l.length) (kR t l i)), s4, s5, s6]⟩) ?_ ?_
      · refine wp_for (fun r ρ => ∃ s4 s5 s6, ρ = ⟨w, [.s t.dat, xl, .s (.int t.n), .o (vecF (t.n + r) fun i => vL (t.n + l.length) (kR t l i)), s4, s5, s6]⟩) ⟨_, _, _, rfl⟩ ?_ ?_
        · rintro r ρ hr ⟨s4, s5, s6, rfl⟩
          simp [ix_its its_rows (at_lt r hr), lst_its (show t.n ≤ 1000000 by omega)]
          rw [lcGo_vec (φ := fun j => frD (t.A (at0 l r) j : Rat))]
          · have e6 : apO (.o (vecF (t.n + r) fun i => vL (t.n + l.length) (kR t l i))) (.list ((vecF t.n fun j => frD (t.A (at0 l r) j : Rat)) ++ vecF l.length fun _ => frD 0)) = some (.o (vecF (t.n + (r + 1)) fun i => vL (t.n + l.length) (kR t l i))) := by
              rw [ap_o (by simp; omega), show t.n + (r + 1) = (t.n + r) + 1 by omega, vecF_succ, vecF_append]
              congr 4
              unfold vL
              congr 1
              refine vecF_congr fun j hj => ?_
              rw [kR_n]
              by_cases hjn : j < t.n
              · rw [if_pos hjn, if_pos hjn]
              · rw [if_neg hjn, if_neg hjn]
            have e7 : dCat (.list (vecF t.n fun j => frD (t.A (at0 l r) j : Rat))) (.list (vecF l.length fun _ => frD 0)) = some ((vecF t.n fun j => frD (t.A (at0 l r) j : Rat)) ++ vecF l.length fun _ => frD 0) := d_cat (by simp; omega)
            simp [h1, len_its hx, frD_n, d_rep (x := frD 0) (show l.length ≤ 1000 by omega), e7, e6]
            exact wp_some ⟨_, _, _, rfl⟩
          · intro j hj
            refine ⟨⟨w, [.s t.dat, xl, .s (.int t.n), .o (vecF (t.n + r) fun i => vL (t.n + l.length) (kR t l i)), s4, .s (.int (at0 l r : Nat)), .s (.int (t.A (at0 l r) j))]⟩, ?_, rfl, ?_⟩
            · simp [Ev.wipe, wipeS]
            · simp
              rfl
        · rintro ρ h
          exact h
      · rintro ρ ⟨s4, s5, s6, rfl⟩
        simp
        exact wp_some ⟨rfl, rfl⟩)
  exact e
theorem F_held_table_eq (ok : t.Ok) (hl : ∀ i ∈ l, i < t.h) (hlen : l.length ≤ 8) (hx : IsLot dl l) (hs : slL (.s dl) = some dl) : F_held_table [t.dat, dl] = some (.list (vecF (t.n + l.length) fun i => vL (t.n + l.length) (kR t l i))) := by
  unfold F_held_table runP
  rw [show ([t.dat, dl] : List D).map Sl.s = [.s t.dat, .s dl] from rfl, G_held_table ok hl hlen hx slB_s hs]
  rfl
end
end PX

namespace PX
open PySem L2 DL PG
/-! ### slices -/
theorem vecF_take {α : Type} {n k : Nat} {f : Nat → α} : (vecF (n + k) f).take n = vecF n f := by
  rw [show vecF (n + k) f = vecF n f ++ vecF k fun i => f (n + i) from ?_, List.take_left' (by simp)]
  rw [vecF_append]
  refine vecF_congr fun i hi => ?_
  by_cases h : i < n
  · rw [if_pos h]
  · rw [if_neg h, show n + (i - n) = i by omega]
theorem vecF_drop {α : Type} {n k : Nat} {f : Nat → α} : (vecF (n + k) f).drop n = vecF k fun i => f (n + i) := by
  rw [show vecF (n + k) f = vecF n f ++ vecF k fun i => f (n + i) from ?_, List.drop_left' (by simp)]
  rw [vecF_append]
  refine vecF_congr fun i hi => ?_
  by_cases h : i < n
  · rw [if_pos h]
  · rw [if_neg h, show n + (i - n) = i by omega]
theorem sIx_n {n m : Nat} {d : Nat} (h : n ≤ m) : HT.sIx m d (some (n : Int)) = n := by
  rw [HT.sIx_nat]
  omega
theorem cut_lo {n k : Nat} {f : Nat → D} : cutD (vecF (n + k) f) none (some (n : Int)) = vecF n f := by
  unfold cutD
  rw [vecF_len, sIx_n (by omega)]
  show (List.drop 0 _).take (n - 0) = _
  rw [List.drop_zero, Nat.sub_zero, vecF_take]
theorem cut_hi {n k : Nat} {f : Nat → D} : cutD (vecF (n + k) f) (some (n : Int)) none = vecF k fun i => f (n + i) := by
  unfold cutD
  rw [vecF_len, sIx_n (by omega), vecF_drop]
  show (vecF k _).take (n + k - n) = _
  rw [Nat.add_sub_cancel_left]
  exact List.take_of_length_le (by simp)
theorem dSl_lo {n k : Nat} {f : Nat → D} : dSl (.list (vecF (n + k) f)) none (some (n : Int)) = some (.list (vecF n f)) := by
  show some (PyData.list (cutD _ _ _)) = _
  rw [cut_lo]
theorem dSl_hi {n k : Nat} {f : Nat → D} : dSl (.list (vecF (n + k) f)) (some (n : Int)) none = some (.list (vecF k fun i => f (n + i))) := by
  show some (PyData.list (cutD _ _ _)) = _
  rw [cut_hi]
section
variable {t : Tk} {l : List Nat} {s : Rat} {p q : Nat} {dl : D} {w : DL.Row}
theorem sol_lo {x U : Nat → Rat} : dSl (vL (t.n + l.length) fun j => if j < t.n then x j else U (at0 l (j - t.n))) none (some (t.n : Int)) = some (vL t.n x) := by
  unfold vL
  rw [dSl_lo]
  congr 2
  refine vecF_congr fun i hi => ?_
  show frD (if i < t.n then _ else _) = _
  rw [if_pos hi]
theorem sol_hi {x U : Nat → Rat} : dSl (vL (t.n + l.length) fun j => if j < t.n then x j else U (at0 l (j - t.n))) (some (t.n : Int)) none = some (.list (wV l U)) := by
  unfold vL
  rw [dSl_hi, wV_vec]
  congr 2
  refine vecF_congr fun i hi => ?_
  show frD (if t.n + i < t.n then _ else _) = _
  rw [if_neg (by omega), Nat.add_sub_cancel_left]
theorem F_negative_eq {x : D} {n : Nat} {v : Nat → Rat} (hx : Its x n fun i => frD (v i)) (hn : n ≤ 1000) : F_negative [x] = some (vL n fun i => - v i) := by
  have hd : dItems x = _ := hx
  refine run_of (w := ([], 0, 0, 0)) rfl ?_
  unfold g_negative
  simp [hd, lst_its (show n ≤ 1000000 by omega)]
  rw [lcGo_vec (φ := fun i => frD (- v i))]
  · simp
    rfl
  · intro i hi
    refine ⟨⟨([], 0, 0, 0), [.s x, .s (.int (v i).num), .s (.int ((v i).den : Nat))]⟩, ?_, rfl, ?_⟩
    · simp [Ev.wipe, wipeS, frD]
    · simp
      rw [frD_neg]
/-! ### the right sides at a share, over the share's denominator -/
theorem lin_sizeN {a b : Int} (ha : a.natAbs ≤ 4000) (hb : b.natAbs ≤ 1000) (hs : Sz p s) : (-(a * (s.den : Int) + b * s.num)).natAbs < 2 ^ (10 + (p + 3)) ∧ -((a : Rat) + (b : Rat) * s) = Rat.divInt (-(a * (s.den : Int) + b * s.num)) (s.den : Int) := by
  obtain ⟨h1, h2⟩ := lin_size ha hb hs
  rw [Int.natAbs_neg, h2, Rat.neg_divInt]
  exact ⟨h1, rfl⟩
def sideS (t : Tk) (s : Rat) (l : List Nat) (i : Nat) : Rat := if i < t.n then - t.cost s i else t.right s (at0 l (i - t.n))
/-- what held tells -/
def HeldP (t : Tk) (s : Rat) (l : List Nat) (P : Nat) (d : D) : Prop := (d = .none ∧ ¬ t.Ind l) ∨ (t.Ind l ∧ ∃ x U : Nat → Rat, d = .tuple [vL t.n x, .list (wV l U)] ∧ SolAt t l P (sideS t s l) x U)
theorem solv1 {n : Nat} {f : Nat → Rat} : (PyData.list [vL n f] : D) = .list (vecF 1 fun _ => vL n f) := rfl
theorem F_held_ok (ok : t.Ok) (hn : l.Nodup) (hl : ∀ i ∈ l, i < t.h) (hlen : l.length ≤ 8) (hs : Sz p s) (hp : p ≤ 1000000) (hx : IsLot dl l) (hd1 : slL (.s dl) = some dl) : ∃ d, F_held [t.dat, frD s, dl] = some d ∧ HeldP t s l (bb (t.n + l.length) + (p + 3)) d := by
  have hn5 := ok.n5
  have hh := ok.h8
  have at_lt : ∀ s, s < l.length → at0 l s < t.h := fun s hs => hl _ (at0_mem hs)
  have e1 := F_rights_at_eq ok hs hp
  have e2 := F_costs_at_eq ok hs hp
  have e3 := F_negative_eq (its_vL (n := t.n) (v := t.cost s)) (by omega)
  have e4 := F_held_table_eq ok hl hlen hx hd1
  obtain ⟨d, e5, h5⟩ := solved_lot ok hn hl (m := 1) (c := p + 3) (by decide) (by decide) (by omega) (by omega) (rows := .list (vecF (t.n + l.length) fun i => vL (t.n + l.length) (kR t l i))) (sides := .list (vecF 1 fun _ => vL (t.n + l.length) (sideS t s l)))
    (S := fun _ => sideS t s l) (e := (s.den : Int)) (u := fun _ i => if i < t.n then -(t.c i * (s.den : Int) + t.d i * s.num) else t.b (at0 l (i - t.n)) * (s.den : Int) + t.e (at0 l (i - t.n)) * s.num)
    rfl (fun i hi => rfl) rfl (fun s hs => rfl) (by have := s.den_nz; omega) (by rw [Int.natAbs_natCast]; exact Nat.lt_of_lt_of_le hs.2 (Nat.pow_le_pow_right (by decide) (by omega))) (fun _ i _ hi => by
      unfold sideS
      by_cases h : i < t.n
      · simp only [if_pos h]
        exact lin_sizeN (ok.c i h) (ok.d i h) hs
      · simp only [if_neg h]
        have := at_lt (i - t.n) (by omega)
        exact lin_size (Nat.le_trans (ok.b _ this) (by decide)) (ok.e _ this) hs) hlen
  have hdi : dItems dl = _ := hx
  refine run_ret rfl ?_
  unfold g_held
  simp [e1, e2, e3, hdi, lst_its (show l.length ≤ 1000000 by omega)]
  rw [lcGo_vec (φ := fun r => frD (t.right s (at0 l r)))]
  · have e7 : dCat (vL t.n fun i => - t.cost s i) (.list (vecF l.length fun r => frD (t.right s (at0 l r)))) = some (vecF (t.n + l.length) fun i => frD (sideS t s l i)) := by
      unfold vL
      rw [d_cat (by simp; omega), vecF_append]
      congr 1
      refine vecF_congr fun i hi => ?_
      unfold sideS
      by_cases h : i < t.n
      · simp only [if_pos h]
      · simp only [if_neg h]
    have e8 : F_solved [.list (vecF (t.n + l.length) fun i => vL (t.n + l.length) (kR t l i)), .list [.list (vecF (t.n + l.length) fun i => frD (sideS t s l i))]] = some d := e5
    simp [e7, e4, e8]
    rcases h5 with ⟨rfl, h6⟩ | ⟨h6, x, U, rfl, h7⟩
    · simp [dIsN]
      exact wp_some (.inl ⟨rfl, h6⟩)
    · simp [dIsN, vecF, sol_lo, sol_hi]
      exact wp_some (.inr ⟨h6, x 0, U 0, rfl, h7 0 (by decide)⟩)
  · intro r hr
    refine ⟨⟨([], 0, 0, 0), [.s t.dat, .s (frD s), .s dl, .s (vL t.h (t.right s)), .no, .no, .s (.int (at0 l r : Nat))]⟩, ?_, rfl, ?_⟩
    · simp [Ev.wipe, wipeS]
    · simp [vL_ix (at_lt r hr)]
end
end PX

namespace PX
open PySem L2 DL PG
section
variable {t : Tk} {l : List Nat} {s : Rat} {p q m n : Nat} {dl : D} {w : DL.Row} {a b : Rat}
theorem F_is_below_eq (ha : Sz m a) (hb : Sz n b) (h : m + n < 134000000) : F_is_below [frD a, frD b] = some (.bool (decide (a < b))) := by
  refine run_of (w := ([], 0, 0, 0)) rfl ?_
  unfold g_is_below
  have h1 : mulOk a.num b.den = true := mulOk_of ha.1 hb.nd h
  have h2 : mulOk b.num a.den = true := mulOk_of hb.1 ha.nd (by omega)
  have e : (a.num * (b.den : Int) < b.num * (a.den : Int)) ↔ a < b := (Rat.lt_iff a b).symm
  simp [frD, h1, h2, e]
def turnS (t : Tk) (r : Nat) (l : List Nat) (i : Nat) : Rat := if i < t.n then (t.A r i : Rat) else 0
@[simp] theorem atI_v1 {f : Nat → D} : L2.atI (vecF 1 f) 0 = some (f 0) := (rfl)
@[simp] theorem atI_v2 {f : Nat → D} : L2.atI (vecF 2 f) 0 = some (f 0) := (rfl)
@[simp] theorem atI_v3 {f : Nat → D} : L2.atI (vecF 2 f) 1 = some (f 1) := (rfl)
theorem G_turn_of (ok : t.Ok) (hn : l.Nodup) (hl : ∀ i ∈ l, i < t.h) (hlen : l.length ≤ 8) (hI : t.Ind l) {r : Nat} (hr : r < t.h) : ∃ m S : Nat → Rat, runDef g_turn_of 3 7 [.s t.dat, .b (.list (lotV l)), .s (iT t.n (t.A r))] w = some (.tuple [vL t.n m, .list (wV l S)], w) ∧
    Stp t l r m S ∧ (∀ j, j < t.n → Sz (bb (t.n + l.length) + 1) (m j)) ∧ ∀ i, Sz (bb (t.n + l.length) + 1) (S i) := by
  have hn5 := ok.n5
  have e4 := G_held_table (w := w) (xl := .b (.list (lotV l))) (dl := .list (lotV l)) ok hl hlen (isLot_l l) rfl rfl
  obtain ⟨d, e5, h5⟩ := solved_lot ok hn hl (m := 1) (c := 1) (by decide) (by decide) (by decide) (by decide) (rows := .list (vecF (t.n + l.length) fun i => vL (t.n + l.length) (kR t l i))) (sides := .list (vecF 1 fun _ => vL (t.n + l.length) (turnS t r l)))
    (S := fun _ => turnS t r l) (e := 1) (u := fun _ i => if i < t.n then t.A r i else 0)
    rfl (fun i hi => rfl) rfl (fun s hs => rfl) (by decide) (by decide) (fun _ i _ hi => by
      unfold turnS
      by_cases h : i < t.n
      · simp only [if_pos h, di1]
        have := ok.A r i hr h
        have e : (2 : Nat) ^ (10 + 1) = 2048 := rfl
        exact ⟨by omega, trivial⟩
      · simp only [if_neg h, di1]
        exact ⟨by decide, rfl⟩) hlen
  rcases h5 with ⟨rfl, h6⟩ | ⟨h6, x, U, rfl, h7⟩
  · exact absurd hI h6
  · have h8 : SolAt t l (bb (t.n + l.length) + 1) (turnS t r l) (x 0) (U 0) := h7 0 (by decide)
    refine ⟨x 0, U 0, ?_, ⟨h8.no, fun j hj => ?_, fun i hi => ?_⟩, h8.sx, h8.sU⟩
    · refine def_of rfl ?_
      unfold g_turn_of
      simp [lst_its (show t.n ≤ 1000000 by omega)]
      rw [lcGo_vec (φ := fun j => frD (t.A r j : Rat))]
      · have e7 : dCat (.list (vecF t.n fun j => frD (t.A r j : Rat))) (.list (vecF l.length fun _ => frD 0)) = some (vecF (t.n + l.length) fun i => frD (turnS t r l i)) := by
          rw [d_cat (by simp; omega), vecF_append]
          congr 1
          refine vecF_congr fun i hi => ?_
          unfold turnS
          by_cases h : i < t.n
          · simp only [if_pos h]
          · simp only [if_neg h]
        have e8 : F_solved [.list (vecF (t.n + l.length) fun i => vL (t.n + l.length) (kR t l i)), .list [.list (vecF (t.n + l.length) fun i => frD (turnS t r l i))]] = some (.list (vecF 1 fun s => vL (t.n + l.length) fun j => if j < t.n then x s j else U s (at0 l (j - t.n)))) := e5
        simp [len_its (isLot_l l), frD_n, d_rep (x := frD 0) (show l.length ≤ 1000 by omega), e7, e4, e8, sol_lo, sol_hi]
      · intro j hj
        refine ⟨⟨w, [.s t.dat, .b (.list (lotV l)), .s (iT t.n (t.A r)), .s (.int t.n), .no, .no, .s (.int (t.A r j))]⟩, ?_, rfl, ?_⟩
        · simp [Ev.wipe, wipeS]
        · simp
          rfl
    · have := h8.top j hj
      unfold turnS at this
      rw [if_pos hj] at this
      exact this
    · obtain ⟨k, hk, e⟩ := List.getElem_of_mem hi
      have := h8.low k hk
      unfold turnS at this
      rw [if_neg (by omega)] at this
      have e2 : at0 l k = i := by
        unfold at0
        rw [List.getD_eq_getElem?_getD, List.getElem?_eq_getElem hk, ← e]
        rfl
      rw [e2] at this
      exact this
theorem ez_eq {W S : Nat → Rat} : ezD (.list (wV l W)) (.list (wV l S)) = some (vecF l.length fun i => .tuple [.int (i : Nat), .tuple [frD (W (at0 l i)), frD (S (at0 l i))]]) := by
  show some (enumD (List.zipWith (fun x y => PyData.tuple [x, y]) (wV l W) (wV l S))) = _
  rw [wV_vec, wV_vec, vecF_zip, vecF_enum]
/-- the first row that would go -/
def FirstOut (l : List Nat) (W S : Nat → Rat) (n : Nat) (d : D) : Prop := (d = .none ∧ ∀ k, k < n → 0 ≤ S (at0 l k)) ∨
  ∃ k, k < n ∧ d = .tuple [frD (W (at0 l k) / (-S (at0 l k))), .int (k : Nat)] ∧ S (at0 l k) < 0 ∧ ∀ j, j < n → S (at0 l j) < 0 → W (at0 l k) / (-S (at0 l k)) ≤ W (at0 l j) / (-S (at0 l j))
def FoJ (l : List Nat) (W S : Nat → Rat) (w : DL.Row) (i : Nat) (ρ : Ev) : Prop := ∃ b s3 s4 s5 s6, ρ = ⟨w, [.b (.list (wV l W)), .s (.list (wV l S)), .s b, s3, s4, s5, s6]⟩ ∧ FirstOut l W S i b
theorem G_first_out {W S : Nat → Rat} {Y B : Nat} (hW : ∀ i, Sz Y (W i)) (hS : ∀ i, Sz B (S i)) (hb : 2 * (Y + B) < 134000000) : ∃ d, runDef g_first_out 2 7 [.b (.list (wV l W)), .s (.list (wV l S))] w = some (d, w) ∧ FirstOut l W S l.length d := by
  obtain ⟨d, w', e, h, rfl⟩ := def_wp (g := g_first_out) (n := 2) (N := 7) (as := [.b (.list (wV l W)), .s (.list (wV l S))]) (w := w) (P := fun d w' => FirstOut l W S l.length d ∧ w' = w) rfl (by
    unfold g_first_out
    simp [ez_eq]
    refine wp_thn (FoJ l W S w l.length) ?_ ?_
    · refine wp_for (FoJ l W S w) ⟨_, _, _, _, _, rfl, .inl ⟨rfl, fun k h => absurd h (Nat.not_lt_zero _)⟩⟩ ?_ ?_
      · rintro i ρ hi ⟨b, s3, s4, s5, s6, rfl, hF⟩
        simp
        have hneg : (PyData.tuple [.int (-(S (at0 l i)).num), .int ((S (at0 l i)).den : Nat)] : D) = frD (-S (at0 l i)) := rfl
        by_cases h0 : S (at0 l i) < 0
        · have hne : -S (at0 l i) ≠ 0 := by grind
          have e1 := F_over_eq (hW (at0 l i)) (hS (at0 l i)).neg (by omega) hne
          simp [h0, hneg, e1]
          rcases hF with ⟨rfl, h1⟩ | ⟨k, hk, rfl, h1, h2⟩
          · simp [dIsN]
            refine wp_some ⟨_, _, _, _, _, rfl, .inr ⟨i, by omega, rfl, h0, fun j hj hjn => ?_⟩⟩
            by_cases e : j = i
            · rw [e]; exact Rat.le_refl
            · have := h1 j (by omega)
              grind
          · have hne2 : -S (at0 l k) ≠ 0 := by grind
            have e2 := F_is_below_eq (Sz.div (hW (at0 l i)) (hS (at0 l i)).neg hne) (Sz.div (hW (at0 l k)) (hS (at0 l k)).neg hne2) (by omega)
            simp [dIsN, e2]
            by_cases hlt : W (at0 l i) / (-S (at0 l i)) < W (at0 l k) / (-S (at0 l k))
            · simp [hlt]
              refine wp_some ⟨_, _, _, _, _, rfl, .inr ⟨i, by omega, rfl, h0, fun j hj hjn => ?_⟩⟩
              by_cases e : j = i
              · rw [e]; exact Rat.le_refl
              · exact Rat.le_trans (Rat.le_of_lt hlt) (h2 j (by omega) hjn)
            · simp [hlt]
              refine wp_some ⟨_, _, _, _, _, rfl, .inr ⟨k, by omega, rfl, h1, fun j hj hjn => ?_⟩⟩
              by_cases e : j = i
              · rw [e]; exact Rat.not_lt.mp hlt
              · exact h2 j (by omega) hjn
        · simp [h0]
          refine wp_some ⟨_, _, _, _, _, rfl, ?_⟩
          rcases hF with ⟨rfl, h1⟩ | ⟨k, hk, rfl, h1, h2⟩
          · refine .inl ⟨rfl, fun j hj => ?_⟩
            by_cases e : j = i
            · rw [e]; exact Rat.not_lt.mp h0
            · exact h1 j (by omega)
          · refine .inr ⟨k, by omega, rfl, h1, fun j hj hjn => ?_⟩
            by_cases e : j = i
            · rw [e] at hjn; exact absurd hjn h0
            · exact h2 j (by omega) hjn
      · rintro ρ h
        exact h
    · rintro ρ ⟨b, s3, s4, s5, s6, rfl, hF⟩
      simp
      exact wp_some ⟨hF, rfl⟩)
  exact ⟨d, e, h⟩
end
end PX

namespace PX
open PySem L2 DL PG
theorem st_vec {n k : Nat} {f : Nat → D} {d : D} (h : k < n) : stO (.o (vecF n f)) (k : Int) d = some (.o (vecF n fun i => if i = k then d else f i)) := by
  unfold stO
  simp only [vecF_len, ixN_nat h, vecF_set]
section
variable {t : Tk} {l : List Nat} {s : Rat} {p q m n k : Nat} {dl dw : D} {w : DL.Row} {W : Nat → Rat} {xl xw : Sl}
def part (l : List Nat) (W : Nat → Rat) (k : Nat) (i : Nat) : Rat := if i ∈ l.take k then W i else 0
theorem take_at {l : List Nat} {k i : Nat} (hk : k < l.length) : i ∈ l.take (k + 1) ↔ i = at0 l k ∨ i ∈ l.take k := by
  have e : at0 l k = l[k] := by
    unfold at0
    rw [List.getD_eq_getElem?_getD, List.getElem?_eq_getElem hk]
    rfl
  rw [List.take_succ_eq_append_getElem hk, List.mem_append, List.mem_singleton, e]
  exact Or.comm
theorem part_s {l : List Nat} {k : Nat} (hk : k < l.length) : (fun i => if i = at0 l k then frD (W (at0 l k)) else frD (part l W k i)) = fun i => frD (part l W (k + 1) i) := by
  funext i
  unfold part
  by_cases h : i = at0 l k
  · rw [if_pos h, if_pos ((take_at hk).mpr (.inl h)), h]
  · rw [if_neg h]
    by_cases h2 : i ∈ l.take k
    · rw [if_pos h2, if_pos ((take_at hk).mpr (.inr h2))]
    · rw [if_neg h2, if_neg fun z => ((take_at hk).mp z).elim h h2]
theorem G_spread (hh : t.h ≤ 1000) (hl : ∀ i ∈ l, i < t.h) (hx : IsLot dl l) (h2 : slL xl = some dl) (hw : Its dw l.length fun s => frD (W (at0 l s))) (h3 : slL xw = some dw) (hz : ∀ i, i ∉ l → W i = 0) :
    runDef g_spread 3 6 [.s t.dat, xl, xw] w = some (vT t.h W, w) := by
  refine def_of rfl ?_
  unfold g_spread
  simp [frD_n, d_rep (x := frD 0) hh, h2, h3, zp2_its hx hw]
  refine thn_for (fun k ρ => ∃ s4 s5, ρ = ⟨w, [.s t.dat, xl, xw, .o (vecF t.h fun i => frD (part l W k i)), s4, s5]⟩) ⟨.no, .no, ?_⟩ (fun k ρ hk hJ => ?_) (fun ρ hJ => ?_)
  · have : (fun i => frD (part l W 0 i)) = fun _ : Nat => frD 0 := by
      funext i
      unfold part
      rw [if_neg (by simp)]
    rw [this]
  · obtain ⟨s4, s5, rfl⟩ := hJ
    have hi := hl _ (at0_mem hk)
    refine ⟨_, ?_, ⟨.s (.int (at0 l k : Nat)), .s (frD (W (at0 l k))), rfl⟩⟩
    simp [st_vec hi, part_s hk]
  · obtain ⟨s4, s5, rfl⟩ := hJ
    simp
    unfold vT
    congr 1
    refine vecF_congr fun i hi => ?_
    unfold part
    rw [List.take_length]
    by_cases h : i ∈ l
    · rw [if_pos h]
    · rw [if_neg h, hz i h]
theorem F_spread_eq (hh : t.h ≤ 1000) (hl : ∀ i ∈ l, i < t.h) (hx : IsLot dl l) (h2 : slL (.s dl) = some dl) (hw : Its dw l.length fun s => frD (W (at0 l s))) (h3 : slL (.s dw) = some dw) (hz : ∀ i, i ∉ l → W i = 0) : F_spread [t.dat, dl, dw] = some (vT t.h W) := by
  unfold F_spread runP
  rw [show ([t.dat, dl, dw] : List D).map Sl.s = [.s t.dat, .s dl, .s dw] from rfl, G_spread hh hl hx h2 hw h3 hz]
  rfl
/-- added, of a borrowed list: a new list -/
theorem N_added {n : Nat} {x y : D} {u v : Nat → Rat} {c : Rat} (hx : Its x n fun i => frD (u i)) (hy : Its y n fun i => frD (v i)) (hn : n ≤ 1000000) (hu : ∀ i, i < n → Sz m (u i)) (hv : ∀ i, i < n → Sz k (v i)) (hc : Sz q c) (h : m + k + q < 134000000) :
    runNew n_added 3 5 [.b x, .s y, .s (frD c)] w = some (vecF n fun i => frD (u i + c * v i), w) := by
  show n_added ⟨w, [.b x, .s y, .s (frD c), .no, .no]⟩ = _
  unfold n_added
  simp [zp2_its hx hy, lst_its hn]
  rw [lcGo_vec (φ := fun i => frD (u i + c * v i))]
  intro i hi
  refine ⟨⟨w, [.b x, .s y, .s (frD c), .s (frD (u i)), .s (frD (v i))]⟩, ?_, rfl, ?_⟩
  · simp [Ev.wipe, wipeS]
  · simp [F_times_eq hc (hv i hi) (by omega), F_plus_eq (hu i hi) (hc.mul (hv i hi)) (by omega)]
end
end PX

namespace PX
open PySem L2 DL PG
/-! ### evaluation of an object's statements -/
def thnH (x : Option HOc) (k : List Sl → Ob → Option HOc) : Option HOc := match x with
  | some (.nx sl ob) => k sl ob
  | o => o
@[simp] theorem thnH_nx {sl : List Sl} {ob : Ob} {k : List Sl → Ob → Option HOc} : thnH (some (.nx sl ob)) k = k sl ob := (rfl)
@[simp] theorem thnH_ret {d : D} {ob : Ob} {k : List Sl → Ob → Option HOc} : thnH (some (.ret d ob)) k = some (.ret d ob) := (rfl)
def fldB (f : Str) : Sl → Option D
  | .ob _ fs => (fs.lookup f).map (·.2)
  | _ => none
def fldS (f : Str) : Sl → Option D
  | .ob _ fs => (match fs.lookup f with
    | some (true, d) => some d
    | _ => none)
  | _ => none
section
variable {ρ : Ev} {i i0 : Nat} {f : Str} {a : Addr} {sl : List Sl} {ob : Ob} {g g' : HS} {m : MM D} {w : DL.Row}
@[simp] theorem e_fldB : mFldB i f ρ = mO (fldB f (ρ.get i)) ρ := by
  unfold mFldB fldB
  cases ρ.get i with
  | ob a fs =>
    simp only
    cases fs.lookup f <;> rfl
  | _ => rfl
@[simp] theorem e_fldS : mFldS i f ρ = mO (fldS f (ρ.get i)) ρ := by
  unfold mFldS fldS
  cases ρ.get i with
  | ob a fs =>
    simp only
    cases fs.lookup f with
    | none => rfl
    | some p =>
      obtain ⟨b, d⟩ := p
      cases b <;> rfl
  | _ => rfl
@[simp] theorem e_hseq : hSeq g g' a sl ob = thnH (g a sl ob) fun sl' ob' => g' a sl' ob' := by
  unfold hSeq thnH
  cases g a sl ob with
  | none => rfl
  | some o => cases o <;> rfl
@[simp] theorem e_hskip : hSkip a sl ob = some (.nx sl ob) := (rfl)
def hpO (a : Addr) (i0 : Nat) (ob : Ob) (x : Option Oc) : Option HOc := match x with
  | some (.nx ρ) => if clean a i0 ρ.sl = true then some (.nx ρ.sl ob) else none
  | some (.ret d _) => some (.ret d ob)
  | _ => none
theorem hpO_congr {x y : Option Oc} (h : x = y) : hpO a i0 ob x = hpO a i0 ob y := by rw [h]
@[simp] theorem e_hp {g : MS} : hP i0 g a sl ob = hpO a i0 ob (g (oRho a i0 sl ob)) := (rfl)
@[simp] theorem hpO_nx : hpO a i0 ob (some (.nx ⟨w, sl⟩)) = if clean a i0 sl = true then some (.nx sl ob) else none := (rfl)
@[simp] theorem hpO_ret {d : D} : hpO a i0 ob (some (.ret d w)) = some (.ret d ob) := (rfl)
@[simp] theorem e_hif {ft : MM Bool} : hIf i0 ft g g' a sl ob = bnd (ft (oRho a i0 sl ob)) fun b _ => cho b (g a sl ob) (g' a sl ob) := by
  unfold hIf bnd
  cases ft (oRho a i0 sl ob) with
  | none => rfl
  | some p => rfl
@[simp] theorem e_hfld : hFld i0 f m a sl ob = bnd (m (oRho a i0 sl ob)) fun d _ => if ob.length < 100 then some (.nx sl (putO f (.s d) ob)) else none := by
  unfold hFld bnd
  cases m (oRho a i0 sl ob) with
  | none => rfl
  | some p => rfl
@[simp] theorem e_hfldO {m : MM (List D)} : hFldO i0 f m a sl ob = bnd (m (oRho a i0 sl ob)) fun d _ => if ob.length < 100 then some (.nx sl (putO f (.o d) ob)) else none := by
  unfold hFldO bnd
  cases m (oRho a i0 sl ob) with
  | none => rfl
  | some p => rfl
@[simp] theorem e_happ : hApp i0 f m a sl ob = bnd (m (oRho a i0 sl ob)) fun d _ => match ob.lookup f with
    | some (.o ds) => if ds.length < 1000000 then some (.nx sl (putO f (.o (ds ++ [d])) ob)) else none
    | _ => none := by
  unfold hApp bnd
  cases m (oRho a i0 sl ob) with
  | none => rfl
  | some p => rfl
@[simp] theorem e_hpop : hPop i0 f m a sl ob = bnd (m (oRho a i0 sl ob)) fun d _ => match d with
    | .int k => (match ob.lookup f with
      | some (.o ds) => if 0 ≤ k ∧ k < (ds.length : Int) ∧ ds.length < 1000000 then some (.nx sl (putO f (.o (ds.eraseIdx k.toNat)) ob)) else none
      | _ => none)
    | _ => none := by
  unfold hPop bnd
  cases m (oRho a i0 sl ob) with
  | none => rfl
  | some p =>
    obtain ⟨d, r⟩ := p
    cases d <;> rfl
@[simp] theorem e_hcall {j : Nat} {me : Str} {F : FM} {fl : MM (List D)} : hCall i0 j me F fl a sl ob = bnd (fl (oRho a i0 sl ob)) fun ds _ => if ob.lookup me = none then (match F a ob ds with
    | some (d, ob') => some (.nx (sl.set j (.s d)) ob')
    | none => none) else none := by
  unfold hCall bnd
  cases fl (oRho a i0 sl ob) with
  | none => rfl
  | some p => rfl
@[simp] theorem e_callN {F : List Sl → DL.Row → Option (List D × DL.Row)} {fl : MM (List Sl)} : mCallN F fl ρ = bnd (fl ρ) fun l r => F l r := by
  unfold mCallN
  rw [e_bind]
  rfl
end
/-- the holder's fields -/
def hob (td sd : D) (lot ws : List D) (x : D) : Ob := [("task", .s td), ("share", .s sd), ("lot", .o lot), ("weights", .o ws), ("plan", .s x)]
section
variable {td sd x x' : D} {lot ws lot' ws' : List D} {a : Addr} {s0 s1 s2 s3 s4 s5 s6 s7 s8 s9 : Sl} {fs : List (Str × Bool × D)}
@[simp] theorem hob_lot : (hob td sd lot ws x).lookup ("lot" : PySem.Str) = some (.o lot) := (rfl)
@[simp] theorem hob_ws : (hob td sd lot ws x).lookup ("weights" : PySem.Str) = some (.o ws) := (rfl)
@[simp] theorem hob_nb : (hob td sd lot ws x).lookup ("brought" : PySem.Str) = none := (rfl)
@[simp] theorem hob_nd : (hob td sd lot ws x).lookup ("done" : PySem.Str) = none := (rfl)
@[simp] theorem hob_len : (hob td sd lot ws x).length = 5 := (rfl)
@[simp] theorem hobS_task : fldS "task" (.ob a (obF (hob td sd lot ws x))) = some td := (rfl)
@[simp] theorem hobS_share : fldS "share" (.ob a (obF (hob td sd lot ws x))) = some sd := (rfl)
@[simp] theorem hobS_plan : fldS "plan" (.ob a (obF (hob td sd lot ws x))) = some x := (rfl)
@[simp] theorem hobB_task : fldB "task" (.ob a (obF (hob td sd lot ws x))) = some td := (rfl)
@[simp] theorem hobB_plan : fldB "plan" (.ob a (obF (hob td sd lot ws x))) = some x := (rfl)
@[simp] theorem hobB_lot : fldB "lot" (.ob a (obF (hob td sd lot ws x))) = some (.list lot) := (rfl)
@[simp] theorem hobB_ws : fldB "weights" (.ob a (obF (hob td sd lot ws x))) = some (.list ws) := (rfl)
@[simp] theorem put_plan : putO "plan" (.s x') (hob td sd lot ws x) = hob td sd lot ws x' := (rfl)
@[simp] theorem put_lot : putO "lot" (.o lot') (hob td sd lot ws x) = hob td sd lot' ws x := (rfl)
@[simp] theorem put_ws : putO "weights" (.o ws') (hob td sd lot ws x) = hob td sd lot ws' x := (rfl)
@[simp] theorem oRho_0 {l : List Sl} {ob : Ob} : oRho a 0 (s0 :: l) ob = ⟨([], 0, 0, 0), .ob a (obF ob) :: l⟩ := (rfl)
@[simp] theorem oRho_2 {l : List Sl} {ob : Ob} : oRho a 2 (s0 :: s1 :: s2 :: l) ob = ⟨([], 0, 0, 0), s0 :: s1 :: .ob a (obF ob) :: l⟩ := (rfl)
@[simp] theorem clean_0 {l : List Sl} : clean a 0 (.ob a fs :: l) = l.all okSl := by
  show (a == a && (Sl.no :: l).all okSl) = _
  simp [okSl]
@[simp] theorem clean_2 {l : List Sl} : clean a 2 (s0 :: s1 :: .ob a fs :: l) = (okSl s0 && (okSl s1 && l.all okSl)) := by
  show (a == a && (s0 :: s1 :: Sl.no :: l).all okSl) = _
  simp [okSl]
@[simp] theorem okSl_s {d : D} : okSl (.s d) = true := (rfl)
@[simp] theorem okSl_no : okSl .no = true := (rfl)
end
/-! ### the loops' bodies -/
def BB : HS := (hSeq (hP 0 (gAsg (mCallG (runDef g_turn_of 3 7) (mConsS (mFldS 0 "task") (mConsB (mFldB 0 "lot") (mConsS (mVar 2) (mRet []))))) (gtTup 2 (gtCons (gtName 4) (gtCons (gtName 5) gtNil)))))
    (hSeq (hP 0 (gSet 6 (mCallG (runDef g_first_out 2 7) (mConsB (mFldB 0 "weights") (mConsS (mVar 5) (mRet []))))))
    (hSeq (hP 0 (gSet 7 (mBind (mCons (mVar 2) (mCons (mVar 4) (mRet []))) fun ds => mO (F_inner (ds ++ [])))))
    (hSeq (hP 0 (gIf (mAnd (mTest (mOp dEq (mOp dIx (mVarB 7) (mRet (.int 0))) (mRet (.int 0)))) (mTest (mUn (fun d => some (.bool (dIsN d))) (mVarB 6)))) (gRet (mBind (mCons (mFldS 0 "task") (mCons (mBind (mLst (mStar (mFldB 0 "lot") (mCons (mVar 1) (mRet [])))) fun ds => mRet (.list ds)) (mCons (mBind (mLst (mStar (mVarB 5) (mCons (mTup (mCons (mRet (.int 1)) (mCons (mRet (.int 1)) (mRet [])))) (mRet [])))) fun ds => mRet (.list ds)) (mRet [])))) fun ds => mO (F_spread (ds ++ [])))) gSkip))
    (hSeq (hP 0 (gSet 8 (mRet .none)))
    (hSeq (hP 0 (gIf (mTest (mOp dGt (mOp dIx (mVarB 7) (mRet (.int 0))) (mRet (.int 0)))) (gSet 8 (mBind (mCons (mBind (mCons (mTup (mCons (mRet (.int 0)) (mCons (mRet (.int 1)) (mRet [])))) (mCons (mOp dIx (mBind (mCons (mFldS 0 "task") (mCons (mFldS 0 "share") (mCons (mFldS 0 "plan") (mRet [])))) fun ds => mO (F_gaps_of (ds ++ []))) (mVarB 1)) (mRet []))) fun ds => mO (F_less (ds ++ []))) (mCons (mVar 7) (mRet []))) fun ds => mO (F_over (ds ++ [])))) gSkip))
    (hSeq (hP 0 (gSet 9 (mIf (mOr (mTest (mUn (fun d => some (.bool (dIsN d))) (mVarB 6))) (mAnd (mTest (mUn (fun d => some (.bool (!dIsN d))) (mVarB 8))) (mNot (mTest (mBind (mCons (mOp dIx (mVarB 6) (mRet (.int 0))) (mCons (mVar 8) (mRet []))) fun ds => mO (F_is_below (ds ++ []))))))) (mVar 8) (mOp dIx (mVarB 6) (mRet (.int 0))))))
    (hSeq (hFld 0 "plan" (mBind (mCons (mFldS 0 "plan") (mCons (mVar 4) (mCons (mVar 9) (mRet [])))) fun ds => mO (F_added (ds ++ []))))
    (hSeq (hFldO 0 "weights" (mCallN (fun l => runNew n_added 3 5 (l ++ [])) (mConsB (mFldB 0 "weights") (mConsS (mVar 5) (mConsS (mVar 9) (mRet []))))))
    (hSeq (hP 0 (gSet 3 (mOp dIx (mBind (mCons (mBind (mLst (mCons (mVar 3) (mRet []))) fun ds => mRet (.list ds)) (mCons (mBind (mLst (mCons (mTup (mCons (mRet (.int 1)) (mCons (mRet (.int 1)) (mRet [])))) (mRet []))) fun ds => mRet (.list ds)) (mCons (mVar 9) (mRet [])))) fun ds => mO (F_added (ds ++ []))) (mRet (.int 0)))))
    (hSeq (hIf 0 (mTest (mOp dEq (mVarB 9) (mVarB 8))) (hSeq (hApp 0 "lot" (mVar 1))
    (hSeq (hApp 0 "weights" (mVar 3))
    (hP 0 (gRet (mRet .none))))) hSkip)
    (hSeq (hPop 0 "lot" (mOp dIx (mVarB 6) (mRet (.int 1))))
    (hPop 0 "weights" (mOp dIx (mVarB 6) (mRet (.int 1))))))))))))))))
def BD : HS := (hSeq (hP 0 (gSet 1 (mBind (mCons (mFldS 0 "task") (mCons (mFldS 0 "share") (mCons (mFldS 0 "plan") (mRet [])))) fun ds => mO (F_gaps_of (ds ++ [])))))
    (hSeq (hP 0 (gSet 2 (mBind (mLc [4, 5] (mEnum (mVarB 1)) (gtTup 2 (gtCons (gtName 4) (gtCons (gtName 5) gtNil))) (mTest (mOp dLt (mOp dIx (mVarB 5) (mRet (.int 0))) (mRet (.int 0)))) (mVar 4)) fun ds => mRet (.list ds))))
    (hSeq (hP 0 (gIf (mTest (mOp dEq (mVarB 2) (mBind (mLst (mRet [])) fun ds => mRet (.list ds)))) (gRet (mRet .none)) gSkip))
    (hSeq (hCall 0 3 "brought" F_Holder_brought (mCons (mOp dIx (mVarB 2) (mRet (.int 0))) (mRet [])))
    (hP 0 (gIf (mTest (mUn (fun d => some (.bool (!dIsN d))) (mVarB 3))) (gRet (mVar 3)) gSkip))))))

theorem brought_eq : g_Holder_brought = hSeq (hP 0 (gPar 2 3 (mBind (mOp dIx (mOp dIx (mOp dIx (mFldB 0 "task") (mRet (.int 3))) (mVarB 1)) (mRet (.int 0))) fun d => mRet (.s d)) (mBind (mRet (.tuple [.int 0, .int 1])) fun d => mRet (.s d)))) (hWh 0 (mTest (mRet (.bool true))) BB 1000) := rfl
theorem done_eq : g_Holder_done = hWh 0 (mTest (mRet (.bool true))) BD 1000 := rfl
end PX

namespace PX
open PySem L2 DL PG
/-! ### one turn of brought -/
def Bt : Nat := 11266
def Qk (p j : Nat) : Nat := 2 ^ (5 - j) * (3 * Bt + p + 1) - (2 * Bt + 1)
theorem Qk_succ {p j : Nat} (h : j < 5) : Qk p j = 2 * Qk p (j + 1) + 2 * Bt + 1 := by
  unfold Qk Bt
  have e : 5 - j = (5 - (j + 1)) + 1 := by omega
  rw [e, Nat.pow_succ]
  have h1 : 1 ≤ 2 ^ (5 - (j + 1)) := Nat.pos_of_ne_zero (by simp)
  have h2 : 1 * (3 * 11266 + p + 1) ≤ 2 ^ (5 - (j + 1)) * (3 * 11266 + p + 1) := Nat.mul_le_mul_right _ h1
  rw [Nat.mul_right_comm]
  omega
theorem Qk_5 {p : Nat} : Qk p 5 = Bt + p := by
  unfold Qk Bt
  simp
  omega
theorem Qk_le {p j : Nat} (hp : p ≤ 200000) : Qk p j ≤ 7600000 := by
  unfold Qk Bt
  have h1 : 2 ^ (5 - j) ≤ 2 ^ 5 := Nat.pow_le_pow_right (by decide) (by omega)
  have h2 : 2 ^ (5 - j) * (3 * 11266 + p + 1) ≤ 2 ^ 5 * (3 * 11266 + p + 1) := Nat.mul_le_mul_right _ h1
  have h3 : (2 : Nat) ^ 5 = 32 := rfl
  omega
theorem Qk_ge {p j : Nat} : Bt + p ≤ Qk p j := by
  unfold Qk Bt
  have h1 : 1 ≤ 2 ^ (5 - j) := Nat.pos_of_ne_zero (by simp)
  have h2 : 1 * (3 * 11266 + p + 1) ≤ 2 ^ (5 - j) * (3 * 11266 + p + 1) := Nat.mul_le_mul_right _ h1
  omega
section
variable {t : Tk} {l : List Nat} {s : Rat} {p : Nat} {x W m S : Nat → Rat} {y : Rat} {r : Nat} {a : Addr} {s0 s4 s5 s6 s7 s8 s9 : Sl}
theorem lotV_app : lotV l ++ [.int (r : Nat)] = lotV (l ++ [r]) := by simp [lotV]
theorem wV_app {y : Rat} (h : r ∉ l) : wV l W ++ [frD y] = wV (l ++ [r]) (addW W r y) := by
  unfold wV
  rw [List.map_append]
  congr 1
  · refine List.map_congr_left fun i hi => ?_
    unfold addW
    rw [if_neg (fun e : i = r => h (e ▸ hi))]
  · show [frD y] = [frD (addW W r y r)]
    unfold addW
    rw [if_pos rfl]
theorem barW_eq : barW S r = addW S r 1 := rfl
theorem erase_map {α β : Type} (f : α → β) : ∀ (l : List α) (k : Nat), (l.map f).eraseIdx k = (l.eraseIdx k).map f
  | [], _ => rfl
  | _ :: _, 0 => rfl
  | b :: l, k + 1 => congrArg (f b :: ·) (erase_map f l k)
theorem lotV_erase {k : Nat} : (lotV l).eraseIdx k = lotV (l.eraseIdx k) := erase_map _ l k
theorem wV_erase {k : Nat} : (wV l W).eraseIdx k = wV (l.eraseIdx k) W := erase_map _ l k
structure BSz (t : Tk) (p : Nat) (l : List Nat) (x W : Nat → Rat) (y : Rat) : Prop where
  x : ∀ j, j < t.n → Sz (Qk p l.length) (x j)
  W : ∀ i, Sz (Qk p l.length) (W i)
  y : Sz (Qk p l.length) y
def Turn1 (t : Tk) (s : Rat) (p : Nat) (l : List Nat) (x W : Nat → Rat) (r : Nat) (td sd : D) (o : Addr → Sl → Option HOc) : Prop :=
  (∃ w, (∀ a s0, o a s0 = some (.ret (vT t.h w) (hob td sd (lotV l) (wV l W) (vL t.n x)))) ∧ t.Bars s w ∧ ∀ i, Sz Bt (w i)) ∨
  (∃ l' x' W', (∀ a s0, o a s0 = some (.ret .none (hob td sd (lotV l') (wV l' W') (vL t.n x')))) ∧ HI t s l' x' W' ∧ t.worth s x < t.worth s x') ∨
  (∃ l' x' W' y', ∃ z0 : Addr → Sl, ∃ z4 z5 z6 z7 z8 z9, (∀ a s0, o a s0 = some (.nx [z0 a, .s (.int (r : Nat)), .s (iT t.n (t.A r)), .s (frD y'), .s z4, .s z5, .s z6, .s z7, .s z8, .s z9] (hob td sd (lotV l') (wV l' W') (vL t.n x')))) ∧ l'.length + 1 = l.length ∧ HB t s l' x' W' y' r ∧ BSz t p l' x' W' y' ∧ t.worth s x ≤ t.worth s x')
theorem at0_ex {i : Nat} (h : i ∈ l) : ∃ k, k < l.length ∧ at0 l k = i := by
  obtain ⟨k, hk, e⟩ := List.getElem_of_mem h
  refine ⟨k, hk, ?_⟩
  unfold at0
  rw [List.getD_eq_getElem?_getD, List.getElem?_eq_getElem hk, ← e]
  rfl
theorem sz1 : Sz 1 1 := ⟨by decide, by decide⟩
theorem add1_eq {c : Rat} {Y C : Nat} (hy : Sz Y y) (hc : Sz C c) (h : Y + C + 1 < 134000000) : F_added [.list [frD y], .list [.tuple [.int 1, .int 1]], frD c] = some (.list [frD (y + c)]) := by
  have e := F_added_eq (n := 1) (x := .list [frD y]) (y := .list [.tuple [.int 1, .int 1]]) (u := fun _ => y) (v := fun _ => 1) (m := Y) (k := 1) (l := C) (c := c) rfl rfl (by decide) (fun _ _ => hy) (fun _ _ => sz1) hc (by omega)
  rw [e]
  show some (PyData.list [frD (y + c * 1)]) = _
  rw [Rat.mul_one]
theorem its_wV : Its (.list (wV l W)) l.length fun s => frD (W (at0 l s)) := by
  show some _ = _
  rw [wV_vec]
theorem addw_eq {c : Rat} {Y B C : Nat} (hW : ∀ i, Sz Y (W i)) (hS : ∀ i, Sz B (S i)) (hc : Sz C c) (hl : l.length ≤ 8) (h : Y + B + C < 134000000) : runNew n_added 3 5 [.b (.list (wV l W)), .s (.list (wV l S)), .s (frD c)] ([], 0, 0, 0) = some (wV l (fun i => W i + c * S i), ([], 0, 0, 0)) := by
  rw [N_added its_wV its_wV (by omega) (fun i _ => hW _) (fun i _ => hS _) hc h, wV_vec]
theorem eq_fn (q : Rat) : dEq (frD q) .none = some (.bool false) := by
  rw [d_eqSh (sh_frD q) (show Sh 0 .none from ⟨rfl, Nat.le_refl 0⟩) (by decide) (by decide)]
  rfl
theorem eq_ff (q r : Rat) : dEq (frD q) (frD r) = some (.bool (decide (q = r))) := by
  rw [d_eqSh (sh_frD q) (sh_frD r) (by decide) (by decide), eqv_frD_dec]
theorem bsz_next {l' : List Nat} {c : Rat} (z : BSz t p l x W y) (sm : ∀ j, j < t.n → Sz Bt (m j)) (sS : ∀ i, Sz Bt (S i)) (sC : Sz (Qk p l.length + Bt) c) (hl : l'.length + 1 = l.length) (h5 : l.length ≤ 5) : BSz t p l' (fun j => x j + c * m j) (fun i => W i + c * S i) (y + c) := by
  have e := Qk_succ (p := p) (j := l'.length) (by omega)
  rw [hl] at e
  exact ⟨fun j hj => ((z.x j hj).add (sC.mul (sm j hj))).mono (by omega), fun i => ((z.W i).add (sC.mul (sS i))).mono (by omega), (z.y.add sC).mono (by omega)⟩
@[simp] theorem isN_n : dIsN .none = true := (rfl)
@[simp] theorem isN_t {l : List D} : dIsN (.tuple l) = false := (rfl)
@[simp] theorem isN_l {l : List D} : dIsN (.list l) = false := (rfl)
@[simp] theorem isN_f {q : Rat} : dIsN (frD q) = false := (rfl)
@[simp] theorem isN_v {n : Nat} {v : Nat → Rat} : dIsN (vL n v) = false := (rfl)
@[simp] theorem isN_vt {n : Nat} {v : Nat → Rat} : dIsN (vT n v) = false := (rfl)
theorem turn_ok (ok : t.Ok) (hs : Sz p s) (hp : p ≤ 200000) (h : HB t s l x W y r) (z : BSz t p l x W y) (h4 : okSl s4 = true) (h5 : okSl s5 = true) (h6 : okSl s6 = true) (h7 : okSl s7 = true) (h8 : okSl s8 = true) (h9 : okSl s9 = true) :
    Turn1 t s p l x W r t.dat (frD s) (fun a s0 => BB a [s0, .s (.int (r : Nat)), .s (iT t.n (t.A r)), .s (frD y), s4, s5, s6, s7, s8, s9] (hob t.dat (frD s) (lotV l) (wV l W) (vL t.n x))) := by
  have hn5 := ok.n5
  have hh8 := ok.h8
  have hlen := h.ind.le h.nd h.lt
  obtain ⟨m, S, e1, q, sm, sS⟩ := G_turn_of (w := ([], 0, 0, 0)) ok h.nd h.lt (by omega) h.ind h.rh
  have hBt : bb (t.n + l.length) + 1 ≤ Bt := by
    have := bb_le (show t.n + l.length ≤ 10 by omega)
    have e : bb 10 = 11263 := by decide
    unfold Bt
    omega
  have sm : ∀ j, j < t.n → Sz Bt (m j) := fun j hj => (sm j hj).mono hBt
  have sS : ∀ i, Sz Bt (S i) := fun i => (sS i).mono hBt
  have hQ := Qk_le (p := p) (j := l.length) hp
  have eB : Bt = 11266 := rfl
  obtain ⟨d, e2, hF⟩ := G_first_out (w := ([], 0, 0, 0)) (l := l) z.W sS (by omega)
  have e3 := F_inner8 (its_iT (n := t.n) (v := t.A r)) (its_vL (v := m)) (by omega) (fun j hj => ok.A r j h.rh hj) sm (by omega)
  rw [show (sumN t.n fun j => (t.A r j : Rat) * m j) = t.Ax m r from rfl] at e3
  obtain ⟨e3, _⟩ := e3
  have hr0 := q.rise0 ok
  have sR : Sz (8 * Bt + 100) (t.Ax m r) := Tk.Ax_sz ok sm h.rh
  have sG : Sz (8 * Qk p l.length + p + 122) (t.gap s x r) := Tk.gap_sz ok hs z.x h.rh
  have e4 := F_gaps_of_eq ok hs (by omega) (its_vL (n := t.n) (v := x)) z.x (by omega)
  have hG : dIx (vL t.h (t.gap s x)) (.int (r : Nat)) = some (frD (t.gap s x r)) := vL_ix h.rh
  have e5 := F_less_eq sz0 sG (by omega)
  by_cases h0 : t.Ax m r = 0
  · rcases hF with ⟨rfl, hS⟩ | ⟨k, hk, rfl, hSk, hmin⟩
    · -- the row leans on the others: barred
      have hS' : ∀ i, 0 ≤ S i := fun i => by
        by_cases hi : i ∈ l
        · obtain ⟨k, hk, e⟩ := at0_ex hi
          rw [← e]; exact hS k hk
        · rw [q.no i hi]; exact Rat.le_refl
      refine .inl ⟨barW S r, ?_, h.bars ok q h0 hS', fun i => ?_⟩
      · intro a s0
        unfold BB
        have e6 := F_spread_eq (t := t) (l := l ++ [r]) (W := barW S r) (by omega) (fun i hi => by
          rcases List.mem_append.mp hi with z | z
          · exact h.lt i z
          · rw [List.mem_singleton.mp z]; exact h.rh) (isLot_l (l ++ [r])) rfl (dw := .list (wV (l ++ [r]) (barW S r))) (by show some _ = _; rw [wV_vec]) rfl (fun i hi => by
          unfold barW
          rw [if_neg (fun z => hi (by simp [z])), q.no i (fun z => hi (by simp [z]))])
        have e7 : wV l S ++ [.tuple [.int 1, .int 1]] = wV (l ++ [r]) (barW S r) := by
          rw [← frD_1]
          exact wV_app h.rl
        simp [e1, h5, h6, h7, h8, h9, e2, e3, h0, lotV_app, e7, e6, d_lst (xs := lotV (l ++ [r])) (by simp; omega), d_lst (xs := wV (l ++ [r]) (barW S r)) (by simp; omega)]
      · unfold barW
        split
        · exact sz1.mono (by omega)
        · exact sS i
    · -- a row goes, the plan stands
      obtain ⟨c, hc⟩ : ∃ c, c = W (at0 l k) / (-S (at0 l k)) := ⟨_, rfl⟩
      rw [← hc] at e2 hmin
      have hne : -S (at0 l k) ≠ 0 := by grind
      have sC : Sz (Qk p l.length + Bt) c := by
        rw [hc]
        exact Sz.div (z.W _) (sS _).neg hne
      refine .inr (.inr ⟨l.eraseIdx k, fun j => x j + c * m j, fun i => W i + c * S i, y + c, ?_⟩)
      have hd := h.drop ok q hk rfl hSk hc (fun i hi hn => by
        obtain ⟨j, hj, e⟩ := at0_ex hi
        rw [← e]
        exact hmin j hj (e ▸ hn)) (fun hp => by rw [h0] at hp; exact absurd hp (by decide))
      have e8 := F_added_eq (its_vL (n := t.n) (v := x)) (its_vL (v := m)) (by omega) z.x sm sC (by omega)
      have e9 := addw_eq (l := l) z.W sS sC (by omega) (by omega)
      have e10 := add1_eq z.y sC (by omega)
      have hk1 : (k : Int) < (l.length : Int) := by omega
      have hk0 : (0 : Int) ≤ (k : Int) := by omega
      have hl1 : l.length < 1000000 := by omega
      refine ⟨fun a => .ob a (obF (hob t.dat (frD s) (lotV l) (wV l fun i => W i + c * S i) (vL t.n fun j => x j + c * m j))), vL t.n m, .list (wV l S), .tuple [frD c, .int k], frD 0, .none, frD c, ?_, by rw [List.length_eraseIdx_of_lt hk]; omega, hd.1, ?_, hd.2⟩
      · intro a s0
        unfold BB
        simp [e1, h5, h6, h7, h8, h9, e2, e3, h0, e8, e9, e10, eq_fn, hk1, hk0, hl1, lotV_erase, wV_erase]
      · exact bsz_next z sm sS sC (by rw [List.length_eraseIdx_of_lt hk]; omega) (by omega)
  · -- the plan moves
    have hpos : 0 < t.Ax m r := by grind
    obtain ⟨f, hf⟩ : ∃ f, f = (0 - t.gap s x r) / t.Ax m r := ⟨_, rfl⟩
    have e6 := F_over_eq (sz0.sub sG) sR (by omega) h0
    have sF : Sz (8 * Qk p l.length + p + 8 * Bt + 300) f := by
      rw [hf]
      exact (Sz.div (sz0.sub sG) sR h0).mono (by omega)
    rw [← hf] at e6
    have fullc : (∀ i ∈ l, S i < 0 → f ≤ W i / (-S i)) → (∀ d', FirstOut l W S l.length d' → d' = d → True) → (∀ a s0, BB a [s0, .s (.int (r : Nat)), .s (iT t.n (t.A r)), .s (frD y), s4, s5, s6, s7, s8, s9] (hob t.dat (frD s) (lotV l) (wV l W) (vL t.n x)) = some (.ret .none (hob t.dat (frD s) (lotV (l ++ [r])) (wV (l ++ [r]) (addW (fun i => W i + f * S i) r (y + f))) (vL t.n fun j => x j + f * m j)))) → Turn1 t s p l x W r t.dat (frD s) (fun a s0 => BB a [s0, .s (.int (r : Nat)), .s (iT t.n (t.A r)), .s (frD y), s4, s5, s6, s7, s8, s9] (hob t.dat (frD s) (lotV l) (wV l W) (vL t.n x))) := fun h1 _ h2 => by
      have hd := h.full ok q hpos hf h1
      exact .inr (.inl ⟨_, _, _, h2, hd.1, hd.2⟩)
    have f8 := F_added_eq (its_vL (n := t.n) (v := x)) (its_vL (v := m)) (by omega) z.x sm sF (by omega)
    have f9 := addw_eq (l := l) z.W sS sF (by omega) (by omega)
    have f10 := add1_eq z.y sF (by omega)
    have f11 := wV_app (W := fun i => W i + f * S i) (y := y + f) h.rl
    have hl1 : l.length < 1000000 := by omega
    rcases hF with ⟨rfl, hS⟩ | ⟨k, hk, rfl, hSk, hmin⟩
    · have hS' : ∀ i, 0 ≤ S i := fun i => by
        by_cases hi : i ∈ l
        · obtain ⟨k, hk, e⟩ := at0_ex hi
          rw [← e]; exact hS k hk
        · rw [q.no i hi]; exact Rat.le_refl
      refine fullc (fun i _ hn => absurd (hS' i) (Rat.not_le.mpr hn)) (fun _ _ _ => trivial) ?_
      intro a s0
      unfold BB
      simp [e1, h5, h6, h7, h8, h9, e2, e3, h0, hpos, e4, hG, frD_n, e5, e6, f8, f9, f10, eq_ff, hl1, lotV_app, f11]
    · obtain ⟨c, hc⟩ : ∃ c, c = W (at0 l k) / (-S (at0 l k)) := ⟨_, rfl⟩
      rw [← hc] at e2 hmin
      have hne : -S (at0 l k) ≠ 0 := by grind
      have sC : Sz (Qk p l.length + Bt) c := by
        rw [hc]
        exact Sz.div (z.W _) (sS _).neg hne
      have hmin' : ∀ i ∈ l, S i < 0 → c ≤ W i / (-S i) := fun i hi hn => by
        obtain ⟨j, hj, e⟩ := at0_ex hi
        rw [← e]
        exact hmin j hj (e ▸ hn)
      have e7 := F_is_below_eq sC sF (by omega)
      by_cases hlt : c < f
      · have e8 := F_added_eq (its_vL (n := t.n) (v := x)) (its_vL (v := m)) (by omega) z.x sm sC (by omega)
        have e9 := addw_eq (l := l) z.W sS sC (by omega) (by omega)
        have e10 := add1_eq z.y sC (by omega)
        have hk1 : (k : Int) < (l.length : Int) := by omega
        have hk0 : (0 : Int) ≤ (k : Int) := by omega
        have hcf : ¬ c = f := fun e => by rw [e] at hlt; exact Rat.lt_irrefl hlt
        have hd := h.drop ok q hk rfl hSk hc hmin' (fun _ => by rw [← hf]; exact hlt)
        refine .inr (.inr ⟨l.eraseIdx k, fun j => x j + c * m j, fun i => W i + c * S i, y + c, ?_⟩)
        refine ⟨fun a => .ob a (obF (hob t.dat (frD s) (lotV l) (wV l fun i => W i + c * S i) (vL t.n fun j => x j + c * m j))), vL t.n m, .list (wV l S), .tuple [frD c, .int k], frD (t.Ax m r), frD f, frD c, ?_, by rw [List.length_eraseIdx_of_lt hk]; omega, hd.1, ?_, hd.2⟩
        · intro a s0
          unfold BB
          simp [e1, h5, h6, h7, h8, h9, e2, e3, h0, hpos, e4, hG, frD_n, e5, e6, e7, hlt, hcf, e8, e9, e10, eq_ff, hk1, hk0, hl1, lotV_erase, wV_erase]
        · exact bsz_next z sm sS sC (by rw [List.length_eraseIdx_of_lt hk]; omega) (by omega)
      · refine fullc (fun i hi hn => Rat.le_trans (Rat.not_lt.mp hlt) (hmin' i hi hn)) (fun _ _ _ => trivial) ?_
        intro a s0
        unfold BB
        simp [e1, h5, h6, h7, h8, h9, e2, e3, h0, hpos, e4, hG, frD_n, e5, e6, e7, hlt, f8, f9, f10, eq_ff, hl1, lotV_app, f11]
end
end PX

namespace PX
open PySem L2 DL PG
/-! ### brought, done -/
section
variable {t : Tk} {l : List Nat} {s : Rat} {p : Nat} {x W m S : Nat → Rat} {y : Rat} {r : Nat} {a : Addr} {s0 s1 s2 s3 s4 s5 s6 s7 s8 s9 : Sl}
theorem wh_true {body : HS} {n : Nat} {sl : List Sl} {ob : Ob} : hWh 0 (mTest (mRet (.bool true))) body (n + 1) a sl ob = match body a sl ob with
    | some (.nx sl' ob') => hWh 0 (mTest (mRet (.bool true))) body n a sl' ob'
    | o => o := by
  show (match (mTest (mRet (.bool true)) (oRho a 0 sl ob) : Option (Bool × DL.Row)) with
    | some (b, _) => _
    | none => none) = _
  rw [show mTest (mRet (.bool true)) (oRho a 0 sl ob) = some (true, (oRho a 0 sl ob).row) by simp; rfl]
  rfl
def BrO (t : Tk) (s : Rat) (x : Nat → Rat) (td sd : D) (o : Addr → Sl → Option HOc) : Prop :=
  (∃ w ob, (∀ a s0, o a s0 = some (.ret (vT t.h w) ob)) ∧ t.Bars s w ∧ ∀ i, Sz Bt (w i)) ∨
  ∃ l' x' W', (∀ a s0, o a s0 = some (.ret .none (hob td sd (lotV l') (wV l' W') (vL t.n x')))) ∧ HI t s l' x' W' ∧ t.worth s x < t.worth s x'
theorem BrO.up {x2 : Nat → Rat} {td sd : D} {o : Addr → Sl → Option HOc} (h : BrO t s x2 td sd o) (hx : t.worth s x ≤ t.worth s x2) : BrO t s x td sd o := by
  rcases h with h | ⟨l', x', W', h1, h2, h3⟩
  · exact .inl h
  · exact .inr ⟨l', x', W', h1, h2, by grind⟩
theorem loop_ok (ok : t.Ok) (hs : Sz p s) (hp : p ≤ 200000) : ∀ (n : Nat) (l : List Nat) (x W : Nat → Rat) (y : Rat) (s4 s5 s6 s7 s8 s9 : Sl), l.length < n → HB t s l x W y r → BSz t p l x W y → okSl s4 = true → okSl s5 = true → okSl s6 = true → okSl s7 = true → okSl s8 = true → okSl s9 = true →
    BrO t s x t.dat (frD s) fun a s0 => hWh 0 (mTest (mRet (.bool true))) BB n a [s0, .s (.int (r : Nat)), .s (iT t.n (t.A r)), .s (frD y), s4, s5, s6, s7, s8, s9] (hob t.dat (frD s) (lotV l) (wV l W) (vL t.n x))
  | 0, l, x, W, y, s4, s5, s6, s7, s8, s9, h, _, _, _, _, _, _, _, _ => absurd h (Nat.not_lt_zero _)
  | n + 1, l, x, W, y, s4, s5, s6, s7, s8, s9, hl, hB, z, h4, h5, h6, h7, h8, h9 => by
    rcases turn_ok ok hs hp hB z h4 h5 h6 h7 h8 h9 with ⟨w, e, h1, h2⟩ | ⟨l', x', W', e, h1, h2⟩ | ⟨l', x', W', y', z0, z4, z5, z6, z7, z8, z9, e, h1, h2, h3, h4'⟩
    · exact .inl ⟨w, hob t.dat (frD s) (lotV l) (wV l W) (vL t.n x), fun a s0 => by simp only [wh_true, e], h1, h2⟩
    · exact .inr ⟨l', x', W', fun a s0 => by simp only [wh_true, e], h1, h2⟩
    · rcases (loop_ok ok hs hp n l' x' W' y' (.s z4) (.s z5) (.s z6) (.s z7) (.s z8) (.s z9) (by omega) h2 h3 rfl rfl rfl rfl rfl rfl).up h4' with ⟨w, ob, e', g⟩ | ⟨l2, x2, W2, e', g⟩
      · exact .inl ⟨w, ob, fun a s0 => by simp only [wh_true, e]; exact e' a (z0 a), g⟩
      · exact .inr ⟨l2, x2, W2, fun a s0 => by simp only [wh_true, e]; exact e' a (z0 a), g⟩
/-- a plan that rows hold is the one of its lot: so its size is known -/
theorem HI.uni (ok : t.Ok) (h : HI t s l x W) {l2 : List Nat} {x2 W2 : Nat → Rat} (h2 : HI t s l2 x2 W2) (he : ∀ i, i ∈ l ↔ i ∈ l2) : (∀ j, j < t.n → x j = x2 j) ∧ ∀ i, W i = W2 i := by
  have := Tk.lot_uni (t := t) (l := l) (x := fun j => x j - x2 j) (U := fun i => W i - W2 i) ok h.ind (fun i hi => by rw [h.no i hi, h2.no i fun z => hi ((he i).mpr z)]; grind) (fun j hj => by
    rw [Tk.Mx_sub, Tk.Aw_sub, ← h.st j hj, ← h2.st j hj]
    unfold Tk.slope
    grind) fun i hi => by
    have e1 := h.ti i hi
    have e2 := h2.ti i ((he i).mp hi)
    unfold Tk.gap at e1 e2
    rw [Tk.Ax_sub]
    grind
  exact ⟨fun j hj => by have := this.1 j hj; grind, fun i => by have := this.2 i; grind⟩
theorem SolAt.hi (hn : l.Nodup) (hl : ∀ i ∈ l, i < t.h) (hI : t.Ind l) {P : Nat} {U : Nat → Rat} (h : SolAt t l P (sideS t s l) x U) : (∀ j, j < t.n → t.slope s x j = t.Aw U j) ∧ ∀ i ∈ l, t.gap s x i = 0 := by
  constructor
  · intro j hj
    have := h.top j hj
    unfold sideS at this
    rw [if_pos hj] at this
    unfold Tk.slope
    grind
  · intro i hi
    obtain ⟨k, hk, e⟩ := at0_ex hi
    have := h.low k hk
    unfold sideS at this
    rw [if_neg (by omega), Nat.add_sub_cancel_left, e] at this
    unfold Tk.gap
    rw [this]
    grind
/-- the plan of a lot, with its weights of any sign -/
theorem lot_sz (ok : t.Ok) (hs : Sz p s) (hp : p ≤ 1000000) (hn : l.Nodup) (hl : ∀ i ∈ l, i < t.h) (hI : t.Ind l) : ∃ x2 U2 : Nat → Rat, (∀ j, j < t.n → t.slope s x2 j = t.Aw U2 j) ∧ (∀ i ∈ l, t.gap s x2 i = 0) ∧ (∀ i, i ∉ l → U2 i = 0) ∧ (∀ j, j < t.n → Sz (Bt + p) (x2 j)) ∧ (∀ i, Sz (Bt + p) (U2 i)) := by
  have hlen := hI.le hn hl
  have hn5 := ok.n5
  obtain ⟨d, _, hd⟩ := F_held_ok ok hn hl (by omega) hs hp (isLot_l l) rfl
  have hb : bb (t.n + l.length) + (p + 3) ≤ Bt + p := by
    have := bb_le (show t.n + l.length ≤ 10 by omega)
    have e : bb 10 = 11263 := by decide
    unfold Bt
    omega
  rcases hd with ⟨_, h⟩ | ⟨_, x2, U2, _, h⟩
  · exact absurd hI h
  · obtain ⟨h1, h2⟩ := h.hi hn hl hI
    exact ⟨x2, U2, h1, h2, h.no, fun j hj => (h.sx j hj).mono hb, fun i => (h.sU i).mono hb⟩
theorem HI.sz (ok : t.Ok) (hs : Sz p s) (hp : p ≤ 1000000) (h : HI t s l x W) : (∀ j, j < t.n → Sz (Bt + p) (x j)) ∧ ∀ i, Sz (Bt + p) (W i) := by
  obtain ⟨x2, U2, h1, h2, h3, h4, h5⟩ := lot_sz ok hs hp h.nd h.lt h.ind
  have := Tk.lot_uni (t := t) (l := l) (x := fun j => x j - x2 j) (U := fun i => W i - U2 i) ok h.ind (fun i hi => by rw [h.no i hi, h3 i hi]; grind) (fun j hj => by
    rw [Tk.Mx_sub, Tk.Aw_sub, ← h.st j hj, ← h1 j hj]
    unfold Tk.slope
    grind) fun i hi => by
    have e1 := h.ti i hi
    have e2 := h2 i hi
    unfold Tk.gap at e1 e2
    rw [Tk.Ax_sub]
    grind
  exact ⟨fun j hj => by
    have e := this.1 j hj
    rw [show x j = x2 j by grind]
    exact h4 j hj, fun i => by
    have e := this.2 i
    rw [show W i = U2 i by grind]
    exact h5 i⟩
theorem brought_ok (ok : t.Ok) (hs : Sz p s) (hp : p ≤ 200000) (h : HI t s l x W) (hr : r < t.h) (hg : t.gap s x r < 0) : ∃ d ob', (∀ a, F_Holder_brought a (hob t.dat (frD s) (lotV l) (wV l W) (vL t.n x)) [.int (r : Nat)] = some (d, ob')) ∧
    ((∃ w, d = vT t.h w ∧ t.Bars s w ∧ ∀ i, Sz Bt (w i)) ∨ ∃ l' x' W', d = .none ∧ ob' = hob t.dat (frD s) (lotV l') (wV l' W') (vL t.n x') ∧ HI t s l' x' W' ∧ t.worth s x < t.worth s x') := by
  obtain ⟨zx, zW⟩ := h.sz ok hs (by omega)
  have hlen := h.ind.le h.nd h.lt
  have hn5 := ok.n5
  have hq := Qk_ge (p := p) (j := l.length)
  have key := loop_ok (r := r) ok hs hp 1000 l x W 0 .no .no .no .no .no .no (by omega) (h.start hr hg) ⟨fun j hj => (zx j hj).mono hq, fun i => (zW i).mono hq, sz0.mono (by unfold Bt at hq; omega)⟩ rfl rfl rfl rfl rfl rfl
  have e1 : ∀ a, g_Holder_brought a ([.no, .s (.int (r : Nat))] ++ List.replicate (10 - 2) .no) (hob t.dat (frD s) (lotV l) (wV l W) (vL t.n x)) = hWh 0 (mTest (mRet (.bool true))) BB 1000 a [.ob a (obF (hob t.dat (frD s) (lotV l) (wV l W) (vL t.n x))), .s (.int (r : Nat)), .s (iT t.n (t.A r)), .s (frD 0), .no, .no, .no, .no, .no, .no] (hob t.dat (frD s) (lotV l) (wV l W) (vL t.n x)) := fun a => by
    rw [brought_eq]
    generalize hWh 0 (mTest (mRet (.bool true))) BB 1000 = Z
    simp [ix_its its_rows hr, frD_n]
  have e2 : ∀ a, F_Holder_brought a (hob t.dat (frD s) (lotV l) (wV l W) (vL t.n x)) [.int (r : Nat)] = match g_Holder_brought a ([.no, .s (.int (r : Nat))] ++ List.replicate (10 - 2) .no) (hob t.dat (frD s) (lotV l) (wV l W) (vL t.n x)) with
      | some (.ret d ob') => some (d, ob')
      | some (.nx _ ob') => some (.none, ob')
      | none => none := fun a => rfl
  rcases key with ⟨w, ob, e, h1, h2⟩ | ⟨l', x', W', e, h1, h2⟩
  · exact ⟨vT t.h w, ob, fun a => by rw [e2, e1]; simp only [e], .inl ⟨w, rfl, h1, h2⟩⟩
  · exact ⟨.none, hob t.dat (frD s) (lotV l') (wV l' W') (vL t.n x'), fun a => by rw [e2, e1]; simp only [e], .inr ⟨l', x', W', rfl, rfl, h1, h2⟩⟩
end
/-! ### lots of rows as lists of places: finitely many -/
def subs : Nat → List (List Nat)
  | 0 => [[]]
  | n + 1 => subs n ++ (subs n).map (· ++ [n])
theorem subs_len : ∀ n, (subs n).length = 2 ^ n
  | 0 => rfl
  | n + 1 => by
    unfold subs
    rw [List.length_append, List.length_map, subs_len n, Nat.pow_succ]
    omega
theorem subs_mem (P : Nat → Bool) : ∀ n, (List.range n).filter P ∈ subs n
  | 0 => List.mem_singleton.mpr rfl
  | n + 1 => by
    unfold subs
    rw [List.range_succ, List.filter_append, List.mem_append]
    by_cases h : P n = true
    · refine .inr (List.mem_map.mpr ⟨_, subs_mem P n, ?_⟩)
      simp [h]
    · refine .inl ?_
      have : List.filter P [n] = [] := by simp [h]
      rw [this, List.append_nil]
      exact subs_mem P n
theorem filter_lt {α : Type} {P Q : α → Bool} : ∀ {l : List α}, (∀ x, P x = true → Q x = true) → (∃ x ∈ l, Q x = true ∧ P x = false) → (l.filter P).length < (l.filter Q).length
  | [], _, ⟨x, h, _⟩ => by cases h
  | b :: l, hs, ⟨x, hx, h1, h2⟩ => by
    have le : ∀ l : List α, (l.filter P).length ≤ (l.filter Q).length := fun l => by
      induction l with
      | nil => exact Nat.le_refl _
      | cons c l ih =>
        rw [List.filter_cons, List.filter_cons]
        by_cases hc : P c = true
        · rw [if_pos hc, if_pos (hs c hc)]
          exact Nat.succ_le_succ ih
        · rw [if_neg hc]
          split
          · exact Nat.le_succ_of_le ih
          · exact ih
    rw [List.filter_cons, List.filter_cons]
    rcases List.mem_cons.mp hx with rfl | hx
    · rw [if_neg (by rw [h2]; exact Bool.false_ne_true), if_pos h1]
      exact Nat.lt_succ_of_le (le l)
    · have ih := filter_lt hs ⟨x, hx, h1, h2⟩
      by_cases hc : P b = true
      · rw [if_pos hc, if_pos (hs b hc)]
        exact Nat.succ_lt_succ ih
      · rw [if_neg hc]
        split
        · exact Nat.lt_succ_of_lt ih
        · exact ih
section
variable {t : Tk} {l : List Nat} {s : Rat} {p : Nat} {x W : Nat → Rat} {a : Addr}
open Classical in
noncomputable def better (t : Tk) (s v : Rat) (c : List Nat) : Bool := decide (∃ x W, HI t s c x W ∧ v < t.worth s x)
noncomputable def mu (t : Tk) (s v : Rat) : Nat := ((subs t.h).filter (better t s v)).length
theorem mu_le : mu t s v ≤ 2 ^ t.h := by
  unfold mu
  rw [← subs_len]
  exact List.length_filter_le ..
theorem HI.canon (h : HI t s l x W) : HI t s ((List.range t.h).filter fun i => decide (i ∈ l)) x W := by
  have he : ∀ i, i ∈ (List.range t.h).filter (fun i => decide (i ∈ l)) ↔ i ∈ l := fun i => by
    rw [List.mem_filter, List.mem_range, decide_eq_true_eq]
    exact ⟨fun z => z.2, fun z => ⟨h.lt i z, z⟩⟩
  exact ⟨List.Pairwise.filter _ List.nodup_range, fun i hi => h.lt i ((he i).mp hi), fun U hU hA => h.ind U (fun i hi => hU i fun z => hi ((he i).mp z)) hA, h.st, fun i hi => h.ti i ((he i).mp hi), fun i hi => h.no i fun z => hi ((he i).mpr z), h.pos⟩
theorem Tk.Mx_congr {x y : Nat → Rat} (h : ∀ j, j < t.n → x j = y j) (i : Nat) : t.Mx x i = t.Mx y i := by
  unfold Tk.Mx
  exact sumN_congr fun j hj => by rw [h j hj]
theorem Tk.Ax_congr {x y : Nat → Rat} (h : ∀ j, j < t.n → x j = y j) (i : Nat) : t.Ax x i = t.Ax y i := by
  unfold Tk.Ax
  exact sumN_congr fun j hj => by rw [h j hj]
theorem Tk.worth_congr {x y : Nat → Rat} (h : ∀ j, j < t.n → x j = y j) : t.worth s x = t.worth s y := by
  unfold Tk.worth
  exact sumN_congr fun j hj => by rw [h j hj, Tk.Mx_congr h]
open Classical in
theorem mu_lt (ok : t.Ok) {v : Rat} (h : HI t s l x W) (hv : v < t.worth s x) : mu t s (t.worth s x) < mu t s v := by
  refine filter_lt (fun c hc => ?_) ⟨_, subs_mem (fun i => decide (i ∈ l)) t.h, ?_, ?_⟩
  · unfold better at hc ⊢
    obtain ⟨x', W', h1, h2⟩ := of_decide_eq_true hc
    exact decide_eq_true ⟨x', W', h1, by grind⟩
  · unfold better
    exact decide_eq_true ⟨x, W, h.canon, hv⟩
  · unfold better
    refine decide_eq_false ?_
    rintro ⟨x', W', h1, h2⟩
    have := (h.canon.uni ok h1 fun _ => Iff.rfl).1
    rw [Tk.worth_congr this] at h2
    exact Rat.lt_irrefl h2
end
end PX

namespace PX
open PySem L2 DL PG
/-! ### done, and the plan by holding -/
section
variable {t : Tk} {l : List Nat} {s : Rat} {p : Nat} {x W : Nat → Rat} {a : Addr} {s0 s1 s2 s3 s4 s5 : Sl}
def DoneP (t : Tk) (s : Rat) (x : Nat → Rat) (td sd : D) (o : Addr → Sl → Option HOc) : Prop :=
  (∃ w ob, (∀ a s0, o a s0 = some (.ret (vT t.h w) ob)) ∧ t.Bars s w ∧ ∀ i, Sz Bt (w i)) ∨
  ∃ l' x' W', (∀ a s0, o a s0 = some (.ret .none (hob td sd (lotV l') (wV l' W') (vL t.n x')))) ∧ HI t s l' x' W' ∧ ∀ i, i < t.h → 0 ≤ t.gap s x' i
theorem done_turn (ok : t.Ok) (hs : Sz p s) (hp : p ≤ 200000) (h : HI t s l x W) (h1 : okSl s1 = true) (h2 : okSl s2 = true) (h3 : okSl s3 = true) (h4 : okSl s4 = true) (h5 : okSl s5 = true) :
    ((∀ a s0, BD a [s0, s1, s2, s3, s4, s5] (hob t.dat (frD s) (lotV l) (wV l W) (vL t.n x)) = some (.ret .none (hob t.dat (frD s) (lotV l) (wV l W) (vL t.n x)))) ∧ ∀ i, i < t.h → 0 ≤ t.gap s x i) ∨
    (∃ w ob, (∀ a s0, BD a [s0, s1, s2, s3, s4, s5] (hob t.dat (frD s) (lotV l) (wV l W) (vL t.n x)) = some (.ret (vT t.h w) ob)) ∧ t.Bars s w ∧ ∀ i, Sz Bt (w i)) ∨
    ∃ l' x' W', ∃ z0 : Addr → Sl, ∃ z1 z2 z3, (∀ a s0, BD a [s0, s1, s2, s3, s4, s5] (hob t.dat (frD s) (lotV l) (wV l W) (vL t.n x)) = some (.nx [z0 a, .s z1, .s z2, .s z3, s4, s5] (hob t.dat (frD s) (lotV l') (wV l' W') (vL t.n x')))) ∧ HI t s l' x' W' ∧ t.worth s x < t.worth s x' := by
  have hn5 := ok.n5
  have hh8 := ok.h8
  obtain ⟨zx, zW⟩ := h.sz ok hs (by omega)
  have hg := F_gaps_of_eq ok hs (by omega) (its_vL (n := t.n) (v := x)) zx (by unfold Bt; omega)
  have e2 : ∀ ρ : Ev, ρ.sl.length = 6 → lcGo [4, 5] (gtTup 2 (gtCons (gtName 4) (gtCons (gtName 5) gtNil))) (mTest (mOp dLt (mOp dIx (mVarB 5) (mRet (.int 0))) (mRet (.int 0)))) (mVar 4) (vecF t.h fun i => .tuple [.int (i : Nat), frD (t.gap s x i)]) ρ = some (((List.range t.h).filter fun i => decide (t.gap s x i < 0)).map fun (i : Nat) => (PyData.int (i : Int) : D), ρ.row) := by
    intro ρ hl
    obtain ⟨row, sl⟩ := ρ
    match sl, hl with
    | [a0, a1, a2, a3, a4, a5], _ =>
      refine lcGo_filter fun i hi => ⟨_, by simp [Ev.wipe, wipeS]; rfl, by simp, fun _ => by simp⟩
  have e3 : dEq (.list (((List.range t.h).filter fun i => decide (t.gap s x i < 0)).map fun (i : Nat) => (PyData.int (i : Int) : D))) (.list []) = some (.bool (((List.range t.h).filter fun i => decide (t.gap s x i < 0)).map fun (i : Nat) => (PyData.int (i : Int) : D)).isEmpty) := d_eqNil (k := 0) (fun d hd => by obtain ⟨i, _, rfl⟩ := List.mem_map.mp hd; exact sh_int _) (by decide)
  have hle : ((List.range t.h).filter fun i => decide (t.gap s x i < 0)).length ≤ t.h := by
    have := List.length_filter_le (fun i => decide (t.gap s x i < 0)) (List.range t.h)
    rwa [List.length_range] at this
  cases ef : (List.range t.h).filter fun i => decide (t.gap s x i < 0) with
  | nil =>
    rw [ef] at e2 e3
    simp only [List.map_nil, List.isEmpty_nil] at e2 e3
    refine .inl ⟨?_, fun i hi => ?_⟩
    · intro a s0
      unfold BD
      simp [hg, vecF_enum, h1, h2, h3, h4, h5, e2, e3, lst_its (show t.h ≤ 1000000 by omega)]
    · have := List.filter_eq_nil_iff.mp ef i (List.mem_range.mpr hi)
      exact Rat.not_lt.mp fun z => this (decide_eq_true z)
  | cons r rest =>
    rw [ef] at e2 e3 hle
    simp only [List.map_cons, List.isEmpty_cons] at e2 e3
    have hm : r ∈ (List.range t.h).filter fun i => decide (t.gap s x i < 0) := by rw [ef]; exact List.mem_cons_self ..
    rw [List.mem_filter, List.mem_range, decide_eq_true_eq] at hm
    obtain ⟨d, ob', eb, hb⟩ := brought_ok ok hs hp h hm.1 hm.2
    rcases hb with ⟨w, rfl, b1, b2⟩ | ⟨l', x', W', rfl, rfl, b1, b2⟩
    · refine .inr (.inl ⟨w, ob', ?_, b1, b2⟩)
      intro a s0
      unfold BD
      simp [hg, vecF_enum, h1, h2, h3, h4, h5, e2, e3, eb, lst_its (show t.h ≤ 1000000 by omega)]
    · refine .inr (.inr ⟨l', x', W', fun a => .ob a (obF (hob t.dat (frD s) (lotV l') (wV l' W') (vL t.n x'))), vL t.h (t.gap s x), .list (PyData.int (r : Int) :: rest.map fun (i : Nat) => (PyData.int (i : Int) : D)), .none, ?_, b1, b2⟩)
      intro a s0
      unfold BD
      simp [hg, vecF_enum, h1, h2, h3, h4, h5, e2, e3, eb, lst_its (show t.h ≤ 1000000 by omega)]
theorem done_loop (ok : t.Ok) (hs : Sz p s) (hp : p ≤ 200000) : ∀ (n : Nat) (l : List Nat) (x W : Nat → Rat) (s1 s2 s3 s4 s5 : Sl), mu t s (t.worth s x) < n → HI t s l x W → okSl s1 = true → okSl s2 = true → okSl s3 = true → okSl s4 = true → okSl s5 = true →
    DoneP t s x t.dat (frD s) fun a s0 => hWh 0 (mTest (mRet (.bool true))) BD n a [s0, s1, s2, s3, s4, s5] (hob t.dat (frD s) (lotV l) (wV l W) (vL t.n x))
  | 0, l, x, W, s1, s2, s3, s4, s5, h, _, _, _, _, _, _ => absurd h (Nat.not_lt_zero _)
  | n + 1, l, x, W, s1, s2, s3, s4, s5, hl, hI, h1, h2, h3, h4, h5 => by
    rcases done_turn ok hs hp hI h1 h2 h3 h4 h5 with ⟨e, h⟩ | ⟨w, ob, e, h⟩ | ⟨l', x', W', z0, z1, z2, z3, e, h, hw⟩
    · exact .inr ⟨l, x, W, fun a s0 => by simp only [wh_true, e], hI, h⟩
    · exact .inl ⟨w, ob, fun a s0 => by simp only [wh_true, e], h⟩
    · have hm := mu_lt ok h hw
      rcases done_loop ok hs hp n l' x' W' (.s z1) (.s z2) (.s z3) s4 s5 (by omega) h rfl rfl rfl h4 h5 with ⟨w, ob, e', g⟩ | ⟨l2, x2, W2, e', g⟩
      · exact .inl ⟨w, ob, fun a s0 => by simp only [wh_true, e]; exact e' a (z0 a), g⟩
      · exact .inr ⟨l2, x2, W2, fun a s0 => by simp only [wh_true, e]; exact e' a (z0 a), g⟩
theorem done_ok (ok : t.Ok) (hs : Sz p s) (hp : p ≤ 200000) (h : HI t s l x W) : ∃ d ob', (∀ a, F_Holder_done a (hob t.dat (frD s) (lotV l) (wV l W) (vL t.n x)) [] = some (d, ob')) ∧
    ((∃ w, d = vT t.h w ∧ t.Bars s w ∧ ∀ i, Sz Bt (w i)) ∨ ∃ l' x' W', d = .none ∧ ob' = hob t.dat (frD s) (lotV l') (wV l' W') (vL t.n x') ∧ HI t s l' x' W' ∧ ∀ i, i < t.h → 0 ≤ t.gap s x' i) := by
  have hm : mu t s (t.worth s x) ≤ 2 ^ t.h := mu_le
  have h8 := ok.h8
  have hm2 : 2 ^ t.h ≤ 2 ^ 8 := Nat.pow_le_pow_right (by decide) h8
  have key := done_loop ok hs hp 1000 l x W .no .no .no .no .no (by omega) h rfl rfl rfl rfl rfl
  have e2 : ∀ a, F_Holder_done a (hob t.dat (frD s) (lotV l) (wV l W) (vL t.n x)) [] = match hWh 0 (mTest (mRet (.bool true))) BD 1000 a [.no, .no, .no, .no, .no, .no] (hob t.dat (frD s) (lotV l) (wV l W) (vL t.n x)) with
      | some (.ret d ob') => some (d, ob')
      | some (.nx _ ob') => some (.none, ob')
      | none => none := fun a => rfl
  rcases key with ⟨w, ob, e, h1⟩ | ⟨l', x', W', e, h1, h2⟩
  · exact ⟨vT t.h w, ob, fun a => by rw [e2]; simp only [e], .inl ⟨w, rfl, h1⟩⟩
  · exact ⟨.none, hob t.dat (frD s) (lotV l') (wV l' W') (vL t.n x'), fun a => by rw [e2]; simp only [e], .inr ⟨l', x', W', rfl, rfl, h1, h2⟩⟩
end
end PX

namespace PX
open PySem L2 DL PG
/-! ### the plan by holding -/
section
variable {td sd v : D} {lo we : Fd}
@[simp] theorem pu0 : putO "task" (.s td) [] = ([("task", .s td)] : Ob) := (rfl)
@[simp] theorem pu1 : putO "share" (.s sd) ([("task", .s td)] : Ob) = ([("task", .s td), ("share", .s sd)] : Ob) := (rfl)
@[simp] theorem pu2 : putO "lot" lo ([("task", .s td), ("share", .s sd)] : Ob) = ([("task", .s td), ("share", .s sd), ("lot", lo)] : Ob) := (rfl)
@[simp] theorem pu3 : putO "weights" we ([("task", .s td), ("share", .s sd), ("lot", lo)] : Ob) = ([("task", .s td), ("share", .s sd), ("lot", lo), ("weights", we)] : Ob) := (rfl)
@[simp] theorem pu4 : putO "plan" (.s v) ([("task", .s td), ("share", .s sd), ("lot", lo), ("weights", we)] : Ob) = ([("task", .s td), ("share", .s sd), ("lot", lo), ("weights", we), ("plan", .s v)] : Ob) := (rfl)
end
section
variable {t : Tk} {l : List Nat} {s : Rat} {p : Nat} {x W : Nat → Rat} {a : Addr}
theorem init_ok (ok : t.Ok) (hs : Sz p s) (hp : p ≤ 200000) : ∃ x W : Nat → Rat, (∀ a, F_Holder_init a [] [t.dat, frD s] = some (.none, hob t.dat (frD s) (lotV []) (wV [] W) (vL t.n x))) ∧ HI t s [] x W := by
  obtain ⟨d, e, h⟩ := F_held_ok (t := t) (l := []) ok List.nodup_nil (fun i hi => by cases hi) (by decide) hs (by omega) (dl := .tuple []) rfl rfl
  have ind : t.Ind [] := fun U hU _ i => hU i (by simp)
  rcases h with ⟨_, h⟩ | ⟨_, x, U, rfl, h⟩
  · exact absurd ind h
  · obtain ⟨h1, h2⟩ := h.hi List.nodup_nil (fun i hi => by cases hi) ind
    refine ⟨x, U, fun a => ?_, ⟨List.nodup_nil, fun i hi => absurd hi (by simp), ind, h1, h2, h.no, fun i => by rw [h.no i (by simp)]; exact Rat.le_refl⟩⟩
    have e2 : F_Holder_init a [] [t.dat, frD s] = match g_Holder_init a [.no, .s t.dat, .s (frD s)] [] with
      | some (.ret d ob') => some (d, ob')
      | some (.nx _ ob') => some (.none, ob')
      | none => none := rfl
    rw [e2]
    unfold g_Holder_init
    simp [e]
    rfl
def HoldP (t : Tk) (s : Rat) (d : D) : Prop := (∃ w, d = .tuple [.none, vT t.h w] ∧ t.Bars s w ∧ ∀ i, Sz Bt (w i)) ∨
  ∃ l x W, d = .tuple [vT t.n x, vT t.h W] ∧ HI t s l x W ∧ ∀ i, i < t.h → 0 ≤ t.gap s x i
theorem F_by_holding_ok (ok : t.Ok) (hs : Sz p s) (hp : p ≤ 200000) : ∃ d, F_by_holding [t.dat, frD s] = some d ∧ HoldP t s d := by
  have hh := ok.h8
  have hn := ok.n5
  obtain ⟨x, W, e1, h1⟩ := init_ok ok hs hp
  obtain ⟨d, ob', e2, h2⟩ := done_ok ok hs hp h1
  have e3 : ∀ a, runMk F_Holder_init g_by_holding 2 4 a [t.dat, frD s] = match g_by_holding a [.s t.dat, .s (frD s), .no, .no] (hob t.dat (frD s) (lotV []) (wV [] W) (vL t.n x)) with
      | some (.ret d _) => some d
      | some (.nx _ _) => some .none
      | none => none := fun a => by
    unfold runMk
    rw [e1 a]
    rfl
  rcases h2 with ⟨w, rfl, h3⟩ | ⟨l', x', W', rfl, rfl, h3, h4⟩
  · refine ⟨_, allA_of (d := .tuple [.none, vT t.h w]) fun a => ?_, .inl ⟨w, rfl, h3⟩⟩
    rw [e3]
    unfold g_by_holding
    simp [e2]
  · have hlen := h3.ind.le h3.nd h3.lt
    refine ⟨_, allA_of (d := .tuple [vT t.n x', vT t.h W']) fun a => ?_, .inr ⟨l', x', W', rfl, h3, h4⟩⟩
    rw [e3]
    unfold g_by_holding
    have e4 := G_spread (t := t) (l := l') (w := ([], 0, 0, 0)) (W := W') (by omega) h3.lt (isLot_l l') (xl := .b (.list (lotV l'))) rfl (its_wV (W := W')) (xw := .b (.list (wV l' W'))) rfl h3.no
    simp [e2, e4, show dTupOf (vL t.n x') = some (vT t.n x') from rfl]
end
end PX

namespace PX
open PySem L2 DL PG
/-! ### one best plan -/
theorem vT_congr {n : Nat} {f g : Nat → Rat} (h : ∀ i, i < n → f i = g i) : vT n f = vT n g := by
  unfold vT
  exact congrArg PyData.tuple (vecF_congr fun i hi => by rw [h i hi])
theorem vL_congr {n : Nat} {f g : Nat → Rat} (h : ∀ i, i < n → f i = g i) : vL n f = vL n g := by
  unfold vL
  exact congrArg PyData.list (vecF_congr fun i hi => by rw [h i hi])
section
variable {t : Tk} {l : List Nat} {s : Rat} {p : Nat} {x y z W U : Nat → Rat}
theorem FitAt.zero {i : Nat} (h : t.FitAt s x W i) : W i * t.gap s x i = 0 := by
  obtain ⟨h1, h2, h3⟩ := h
  by_cases a : 0 < W i
  · have : t.gap s x i = 0 := by
      by_cases b : 0 < t.gap s x i
      · exact absurd ⟨a, b⟩ h3
      · grind
    rw [this, Rat.mul_zero]
  · have : W i = 0 := by grind
    rw [this, Rat.zero_mul]
theorem fit_of {i : Nat} (h1 : 0 ≤ t.gap s x i) (h2 : 0 ≤ W i) (h3 : W i * t.gap s x i = 0) : t.FitAt s x W i := ⟨h1, h2, fun ⟨a, b⟩ => by
  have := Rat.mul_pos a b
  rw [h3] at this
  exact Rat.lt_irrefl this⟩
theorem HI.shows (h : HI t s l x W) (hg : ∀ i, i < t.h → 0 ≤ t.gap s x i) : t.Shows s x W := ⟨fun i hi => fit_of (hg i hi) (h.pos i) (by
  by_cases e : i ∈ l
  · rw [h.ti i e, Rat.mul_zero]
  · rw [h.no i e, Rat.zero_mul]), h.st⟩
/-- the slope, along a step, of a plan that weights show -/
theorem Shows.along (h : t.Shows s x W) : (sumN t.n fun j => (z j - x j) * t.slope s x j) = sumN t.h fun i => t.gap s z i * W i := by
  have e1 : (sumN t.n fun j => (z j - x j) * t.slope s x j) = sumN t.n fun j => (z j - x j) * t.Aw W j := sumN_congr fun j hj => by rw [h.2 j hj]
  rw [e1, ← Tk.Ax_Aw (t := t) (v := fun j => z j - x j) (w := W)]
  refine sumN_congr fun i hi => ?_
  have := FitAt.zero (h.1 i hi)
  have e : t.Ax (fun j => z j - x j) i = t.gap s z i - t.gap s x i := by
    rw [Tk.Ax_sub]
    unfold Tk.gap
    grind
  rw [e]
  grind
theorem Tk.worth_step (ok : t.Ok) : t.worth s z = t.worth s x + (sumN t.n fun j => (z j - x j) * t.slope s x j) + (1 / 2) * sumN t.n fun j => (z j - x j) * t.Mx (fun j => z j - x j) j := by
  have sy := Tk.Mx_sym (t := t) (X := x) (Y := z) ok
  have h1 : (sumN t.n fun j => (z j - x j) * t.slope s x j) = (sumN t.n fun j => z j * t.Mx x j) - (sumN t.n fun j => x j * t.Mx x j) + ((sumN t.n fun j => z j * t.cost s j) - sumN t.n fun j => x j * t.cost s j) := by
    rw [← sumN_sub, ← sumN_sub, ← sumN_add]
    exact sumN_congr fun j _ => by unfold Tk.slope; grind
  have h2 : (sumN t.n fun j => (z j - x j) * t.Mx (fun j => z j - x j) j) = (sumN t.n fun j => z j * t.Mx z j) - (sumN t.n fun j => z j * t.Mx x j) - (sumN t.n fun j => x j * t.Mx z j) + sumN t.n fun j => x j * t.Mx x j := by
    rw [← sumN_sub, ← sumN_sub, ← sumN_add]
    exact sumN_congr fun j _ => by rw [Tk.Mx_sub]; grind
  have h3 : ∀ v : Nat → Rat, t.worth s v = (1 / 2) * (sumN t.n fun j => v j * t.Mx v j) + sumN t.n fun j => v j * t.cost s j := fun v => by
    unfold Tk.worth
    rw [← sumN_mul, ← sumN_add]
    exact sumN_congr fun j _ => by grind
  rw [h1, h2, h3, h3]
  grind
theorem Shows.le (ok : t.Ok) (h : t.Shows s x W) (hz : ∀ i, i < t.h → 0 ≤ t.gap s z i) : t.worth s x + (1 / 2) * (sumN t.n fun j => (z j - x j) * t.Mx (fun j => z j - x j) j) ≤ t.worth s z := by
  have e := Tk.worth_step (t := t) (s := s) (x := x) (z := z) ok
  have g : 0 ≤ sumN t.n fun j => (z j - x j) * t.slope s x j := by
    rw [Shows.along h]
    exact sumN_nonneg fun i hi => Rat.mul_nonneg (hz i hi) (h.1 i hi).2.1
  grind
theorem Shows.lt (ok : t.Ok) (h : t.Shows s x W) (hz : ∀ i, i < t.h → 0 ≤ t.gap s z i) (hn : ¬ ∀ j, j < t.n → x j = z j) : t.worth s x < t.worth s z := by
  have e := Shows.le ok h hz
  have : 0 < sumN t.n fun j => (z j - x j) * t.Mx (fun j => z j - x j) j := Rat.not_le.mp fun le => hn fun j hj => by
    have := Tk.quad_zero ok le j hj
    grind
  grind
theorem Shows.uni (ok : t.Ok) (h : t.Shows s x W) (h' : t.Shows s z U) : ∀ j, j < t.n → x j = z j := Classical.byContradiction fun n => by
  have a := Shows.lt ok h (fun i hi => (h'.1 i hi).1) n
  have b := Shows.le ok h' (z := x) fun i hi => (h.1 i hi).1
  have c := Tk.quad_nonneg ok fun j => x j - z j
  grind
theorem Bars.no (h : t.Bars s W) (hg : ∀ i, i < t.h → 0 ≤ t.gap s z i) : False := by
  obtain ⟨h1, h2, h3⟩ := h
  have e : (sumN t.h fun i => t.Ax z i * W i) = 0 := by
    rw [Tk.Ax_Aw]
    exact sumN_zero fun j hj => by rw [h2 j hj, Rat.mul_zero]
  have : t.lim s W ≤ sumN t.h fun i => t.Ax z i * W i := by
    unfold Tk.lim
    refine sumN_le fun i hi => Rat.mul_le_mul_of_nonneg_right ?_ (h1 i hi)
    have := hg i hi
    unfold Tk.gap at this
    grind
  grind
theorem Tk.Shows.congr {x' : Nat → Rat} (h : t.Shows s x W) (e : ∀ j, j < t.n → x j = x' j) : t.Shows s x' W := by
  have g : ∀ i, t.gap s x' i = t.gap s x i := fun i => by unfold Tk.gap; rw [Tk.Ax_congr e]
  refine ⟨fun i hi => ?_, fun j hj => ?_⟩
  · have := h.1 i hi
    unfold Tk.FitAt at this ⊢
    rw [g]
    exact this
  · rw [← h.2 j hj]
    unfold Tk.slope
    rw [Tk.Mx_congr e]
theorem HoldP.of_shows (ok : t.Ok) {d : D} (h : HoldP t s d) (hs : t.Shows s x W) : ∃ l U, d = .tuple [vT t.n x, vT t.h U] ∧ HI t s l x U ∧ t.Shows s x U := by
  rcases h with ⟨w, _, hb, _⟩ | ⟨l, y, U, rfl, hi, hg⟩
  · exact (Bars.no hb fun i hi => (hs.1 i hi).1).elim
  · have hy := hi.shows hg
    have e := Shows.uni ok hy hs
    have ev : vT t.n y = vT t.n x := vT_congr e
    refine ⟨l, U, by rw [ev], ?_, hy.congr e⟩
    exact ⟨hi.nd, hi.lt, hi.ind, fun j hj => (hy.congr e).2 j hj, fun i h => by rw [← hi.ti i h]; unfold Tk.gap; rw [Tk.Ax_congr e], hi.no, hi.pos⟩
end
end PX

namespace PX
open PySem L2 DL PG
/-! ### rising rows -/
/-- the task of a rising row -/
def rT (n : Nat) (v w : Nat → Int) : Tk := ⟨n, n - 1, fun i j => if i = j then w i else 0, fun i => -(v i) * w i, fun _ => 0, fun i j => if j = i + 1 then 1 else if j = i then -1 else 0, fun _ => 0, fun _ => 0⟩
theorem rep_iT {n : Nat} (h1 : 1 ≤ n) (h : n ≤ 1000) : dRepT2 (.tuple [.int 0]) (.int n) = some (iT n fun _ => 0) := by
  unfold dRepT2
  simp only
  rw [if_pos ⟨by omega, by omega, by decide, by simp⟩]
  unfold iT vecF
  simp [List.map_const']
theorem sq0 (q : Rat) : 0 ≤ q * q := by
  rcases Rat.le_total (a := 0) (b := q) with h | h
  · exact Rat.mul_nonneg h h
  · have := Rat.mul_nonneg (show 0 ≤ -q by grind) (show 0 ≤ -q by grind)
    grind
theorem mulOk_s {i j : Int} (hi : i.natAbs ≤ 1000) (hj : j.natAbs ≤ 1000) : mulOk i j = true := mulOk_of (m := 10) (n := 10) (pow10 hi) (pow10 hj) (by decide)
section
variable {n : Nat} {v w : Nat → Int}
theorem rT_ok (h1 : 1 ≤ n) (h4 : n ≤ 4) (hw : ∀ i, i < n → 0 < w i) (hws : ∀ i, i < n → (w i).natAbs ≤ 1000) (hc : ∀ i, i < n → (v i * w i).natAbs ≤ 4000) : (rT n v w).Ok where
  n1 := h1
  n5 := by show n ≤ 5; omega
  h8 := by show n - 1 ≤ 8; omega
  M := fun i j hi hj => by
    show (if i = j then w i else 0).natAbs ≤ 1000
    split
    · exact hws i hi
    · decide
  c := fun i hi => by
    show (-(v i) * w i).natAbs ≤ 4000
    rw [Int.neg_mul, Int.natAbs_neg]
    exact hc i hi
  d := fun i hi => by show (0 : Int).natAbs ≤ 1000; decide
  A := fun i j hi hj => by
    show (if j = i + 1 then (1 : Int) else if j = i then -1 else 0).natAbs ≤ 1000
    split
    · decide
    · split <;> decide
  b := fun i hi => by show (0 : Int).natAbs ≤ 1000; decide
  e := fun i hi => by show (0 : Int).natAbs ≤ 1000; decide
  sym := fun i j hi hj => by
    show (if i = j then w i else 0) = if j = i then w j else 0
    by_cases e : i = j
    · subst e; rfl
    · rw [if_neg e, if_neg fun z => e z.symm]
  pd := fun z ⟨i, hi, hz⟩ => by
    show 0 < sumN n fun i => z i * sumN n fun j => ((if i = j then w i else 0 : Int) : Rat) * z j
    have e : ∀ i, i < n → (sumN n fun j => ((if i = j then w i else 0 : Int) : Rat) * z j) = (w i : Rat) * z i := fun i hi => by
      rw [sumN_one hi fun j hj hne => ?_]
      · simp
      · rw [if_neg fun e => hne e.symm]
        simp
    have hp : ∀ i, i < n → 0 < (w i : Rat) := fun i hi => by exact_mod_cast hw i hi
    refine sumN_pos (a := i) hi (fun k hk => ?_) ?_
    · rw [e k hk]
      have := Rat.mul_nonneg (Rat.le_of_lt (hp k hk)) (sq0 (z k))
      grind
    · rw [e i hi]
      have h3 : 0 < z i * z i := by
        have := sq0 (z i)
        rcases (show 0 < z i * z i ∨ z i * z i = 0 by grind) with a | a
        · exact a
        · rcases Rat.mul_eq_zero.mp a with b | b <;> exact absurd b hz
      have := Rat.mul_pos (hp i hi) h3
      grind
theorem F_rising_eq (h1 : 1 ≤ n) (h4 : n ≤ 4) (hv : ∀ i, i < n → (v i).natAbs ≤ 1000) (hw : ∀ i, i < n → 0 < w i) (hws : ∀ i, i < n → (w i).natAbs ≤ 1000) (hc : ∀ i, i < n → (v i * w i).natAbs ≤ 4000) :
    ∃ d e, F_rising [iT n v, iT n w] = some d ∧ HoldP (rT n v w) 0 e ∧ dIx e (.int 0) = some d := by
  have ok := rT_ok h1 h4 hw hws hc
  obtain ⟨e, e1, he⟩ := F_by_holding_ok ok (s := 0) (p := 1) (sz0.mono (by decide)) (by decide)
  obtain ⟨d, hd⟩ : ∃ d, dIx e (.int 0) = some d := by
    rcases he with ⟨_, rfl, _⟩ | ⟨_, _, _, rfl, _⟩
    · exact ⟨.none, by simp⟩
    · exact ⟨vT _ _, by simp; rfl⟩
  have r1 := F_is_row_eq (n := n) (r := v) (by omega) hv
  have r2 := F_is_row_eq (n := n) (r := w) (by omega) hws
  have i1 : dIsi "tuple" (iT n v) = some (.bool true) := isi_tt
  have c1 : (1 : Int) ≤ (n : Int) := by omega
  have c2 : (n : Int) ≤ 4 := by omega
  have c3 : ((n : Int) - 1) = ((n - 1 : Nat) : Int) := by omega
  obtain ⟨d', e2, rfl⟩ : ∃ d', runP g_rising 2 10 [iT n v, iT n w] = some d' ∧ d' = d := by
    refine run_ret (P := fun d' => d' = d) rfl ?_
    unfold g_rising
    simp [i1, c1, c2, len_its its_iT, r1, r2, lst_its (show n ≤ 1000000 by omega)]
    rw [lcGo_vec (φ := fun i => .bool true)]
    · simp [d_allT, len_its its_iT, d_range (show n ≤ 1000000 by omega), lst_its (show n ≤ 1000000 by omega)]
      rw [lcGo_vec (φ := fun i => iT n (fun j => if i = j then w i else 0))]
      · simp [c3, d_range (show n - 1 ≤ 1000000 by omega), lst_its (show n - 1 ≤ 1000000 by omega)]
        generalize hP : (PyData.tuple (vecF n fun i => iT n fun j => if i = j then w i else 0) : D) = SQ
        refine wp_thn (fun ρ => ∃ s5, ρ = ⟨([], 0, 0, 0), [.s (iT n v), .s (iT n w), .s (.int (n : Nat)), .s SQ, .o (vecF (n - 1) (rT n v w).rowD), s5, .no, .no, .no, .no]⟩) ?_ ?_
        · refine wp_for (fun i ρ => ∃ s5, ρ = ⟨([], 0, 0, 0), [.s (iT n v), .s (iT n w), .s (.int (n : Nat)), .s SQ, .o (vecF i (rT n v w).rowD), s5, .no, .no, .no, .no]⟩) ⟨_, rfl⟩ ?_ (fun ρ h => h)
          rintro i ρ hi ⟨s5, rfl⟩
          simp [d_range (show n ≤ 1000000 by omega), lst_its (show n ≤ 1000000 by omega)]
          rw [lcGo_vec (φ := fun j => .int ((rT n v w).A i j))]
          · simp
            rw [ap_o (by simp; omega), show vecF i (rT n v w).rowD ++ [.tuple [.tuple (vecF n fun j => .int ((rT n v w).A i j)), .int 0, .int 0]] = vecF (i + 1) (rT n v w).rowD from vecF_succ.symm]
            exact wp_some ⟨_, rfl⟩
          · intro j hj
            refine ⟨⟨([], 0, 0, 0), [.s (iT n v), .s (iT n w), .s (.int (n : Nat)), .s SQ, .o (vecF i (rT n v w).rowD), .s (.int (i : Nat)), .no, .no, .s (.int (j : Nat)), .no]⟩, ?_, rfl, ?_⟩
            · simp [Ev.wipe, wipeS]
            · show _ = some (PyData.int (if j = i + 1 then (1 : Int) else if j = i then -1 else 0), _)
              by_cases h : j = i + 1
              · subst h
                simp
              · have h' : ¬ (j : Int) = (i : Int) + 1 := by omega
                by_cases h2 : j = i
                · subst h2
                  have h3 : ¬ (j : Int) = (j : Int) + 1 := by omega
                  simp [h3]
                · have h2' : ¬ (j : Int) = (i : Int) := by omega
                  simp [h, h', h2, h2']
        · rintro ρ ⟨s5, rfl⟩
          simp [len_its its_iT, zp2_its (its_iT (n := n) (v := v)) (its_iT (v := w)), lst_its (show n ≤ 1000000 by omega)]
          rw [lcGo_vec (φ := fun i => .int (-(v i) * w i))]
          · simp [rep_iT h1 (show n ≤ 1000 by omega), lst_its (show n - 1 ≤ 1000000 by omega)]
            subst hP
            have e1' : F_by_holding [.tuple [.tuple (vecF n fun i => iT n fun j => if i = j then w i else 0), .tuple (vecF n fun i => .int (-v i * w i)), iT n fun x => 0, .tuple (vecF (n - 1) (rT n v w).rowD)], .tuple [.int 0, .int 1]] = some e := e1
            simp [e1', hd]
            exact wp_some rfl
          · intro i hi
            refine ⟨⟨([], 0, 0, 0), [.s (iT n v), .s (iT n w), .s (.int (n : Nat)), .s SQ, .o (vecF (n - 1) (rT n v w).rowD), s5, .no, .s (.int (v i)), .no, .s (.int (w i))]⟩, ?_, rfl, ?_⟩
            · simp [Ev.wipe, wipeS]
            · have := mulOk_s (i := -(v i)) (j := w i) (by rw [Int.natAbs_neg]; exact hv i hi) (hws i hi)
              simp [this]
      · intro i hi
        refine ⟨⟨([], 0, 0, 0), [.s (iT n v), .s (iT n w), .s (.int (n : Nat)), .no, .no, .s (.int (i : Nat)), .no, .no, .no, .no]⟩, ?_, rfl, ?_⟩
        · simp [Ev.wipe, wipeS]
        · simp [d_range (show n ≤ 1000000 by omega), lst_its (show n ≤ 1000000 by omega)]
          rw [lcGo_vec (φ := fun j => .int (if i = j then w i else 0))]
          · simp
            rfl
          · intro j hj
            refine ⟨⟨([], 0, 0, 0), [.s (iT n v), .s (iT n w), .s (.int (n : Nat)), .no, .no, .s (.int (i : Nat)), .no, .no, .s (.int (j : Nat)), .no]⟩, ?_, rfl, ?_⟩
            · simp [Ev.wipe, wipeS]
            · by_cases h : i = j
              · subst h
                simp [ix_its (its_iT (v := w)) hi]
              · have h' : ¬ (i : Int) = (j : Int) := by omega
                simp [h, h']
    · intro i hi
      refine ⟨⟨([], 0, 0, 0), [.s (iT n v), .s (iT n w), .no, .no, .no, .no, .no, .s (.int (w i)), .no, .no]⟩, ?_, rfl, ?_⟩
      · simp [Ev.wipe, wipeS]
      · have := hw i hi
        simp [this]
  exact ⟨d', e, e2, he, hd⟩
end
end PX

namespace PX
open PySem L2 DL PG
/-! ### the greatest of least means -/
def minN (f : Nat → Rat) : Nat → Rat
  | 0 => f 0
  | k + 1 => if f (k + 1) < minN f k then f (k + 1) else minN f k
def maxN (f : Nat → Rat) : Nat → Rat
  | 0 => f 0
  | k + 1 => if maxN f k < f (k + 1) then f (k + 1) else maxN f k
theorem minN_le {f : Nat → Rat} : ∀ {k i : Nat}, i ≤ k → minN f k ≤ f i
  | 0, i, h => by rw [show i = 0 by omega]; exact Rat.le_refl
  | k + 1, i, h => by
    unfold minN
    by_cases e : i = k + 1
    · subst e
      split <;> grind
    · have := minN_le (f := f) (k := k) (i := i) (by omega)
      split <;> grind
theorem minN_ge {f : Nat → Rat} {a : Rat} : ∀ {k : Nat}, (∀ i, i ≤ k → a ≤ f i) → a ≤ minN f k
  | 0, h => h 0 (Nat.le_refl _)
  | k + 1, h => by
    unfold minN
    have := minN_ge (f := f) (k := k) fun i hi => h i (by omega)
    have := h (k + 1) (Nat.le_refl _)
    split <;> grind
theorem maxN_ge {f : Nat → Rat} : ∀ {k i : Nat}, i ≤ k → f i ≤ maxN f k
  | 0, i, h => by rw [show i = 0 by omega]; exact Rat.le_refl
  | k + 1, i, h => by
    unfold maxN
    by_cases e : i = k + 1
    · subst e
      split <;> grind
    · have := maxN_ge (f := f) (k := k) (i := i) (by omega)
      split <;> grind
theorem maxN_le {f : Nat → Rat} {a : Rat} : ∀ {k : Nat}, (∀ i, i ≤ k → f i ≤ a) → maxN f k ≤ a
  | 0, h => h 0 (Nat.le_refl _)
  | k + 1, h => by
    unfold maxN
    have := maxN_le (f := f) (k := k) fun i hi => h i (by omega)
    have := h (k + 1) (Nat.le_refl _)
    split <;> grind
section
variable {n : Nat} {v w : Nat → Int} {x U : Nat → Rat}
def topN (v w : Nat → Int) (lo hi : Nat) : Rat := sumN (hi + 1 - lo) fun k => (v (lo + k) : Rat) * (w (lo + k) : Rat)
def lowN (w : Nat → Int) (lo hi : Nat) : Rat := sumN (hi + 1 - lo) fun k => (w (lo + k) : Rat)
def meanN (v w : Nat → Int) (lo hi : Nat) : Rat := topN v w lo hi / lowN w lo hi
def dueN (n : Nat) (v w : Nat → Int) (a : Nat) : Rat := maxN (fun lo => minN (fun k => meanN v w lo (a + k)) (n - 1 - a)) a
def Tn (n : Nat) (U : Nat → Rat) (k : Nat) : Rat := if k = 0 ∨ n ≤ k then 0 else U (k - 1)
theorem rT_slope {j : Nat} (hj : j < n) : (rT n v w).slope 0 x j = (w j : Rat) * x j - (v j : Rat) * (w j : Rat) := by
  unfold Tk.slope Tk.Mx Tk.cost
  show (sumN n fun i => ((if j = i then w j else 0 : Int) : Rat) * x i) + (((-(v j) * w j : Int) : Rat) + ((0 : Int) : Rat) * 0) = _
  rw [sumN_one hj fun i hi hne => ?_]
  · rw [if_pos rfl]
    simp only [Rat.intCast_mul, Rat.intCast_neg]
    grind
  · rw [if_neg fun e => hne e.symm]
    simp
theorem rT_gap {i : Nat} (hi : i < n - 1) : (rT n v w).gap 0 x i = x (i + 1) - x i := by
  unfold Tk.gap Tk.Ax Tk.right
  show (sumN n fun j => ((if j = i + 1 then (1 : Int) else if j = i then -1 else 0 : Int) : Rat) * x j) - (((0 : Int) : Rat) + ((0 : Int) : Rat) * 0) = _
  have e : (sumN n fun j => ((if j = i + 1 then (1 : Int) else if j = i then -1 else 0 : Int) : Rat) * x j) = (sumN n fun j => if j = i + 1 then x j else 0) + sumN n fun j => if j = i then - x j else 0 := by
    rw [← sumN_add]
    refine sumN_congr fun j hj => ?_
    by_cases h1 : j = i + 1
    · have h2 : ¬ j = i := by omega
      simp [h1]
      grind
    · by_cases h2 : j = i
      · have h3 : ¬ i = i + 1 := by omega
        simp [h2, h3]
        grind
      · simp [h1, h2]
        grind
  rw [e, sumN_one (a := i + 1) (by omega) fun j _ h => if_neg h, sumN_one (a := i) (by omega) fun j _ h => if_neg h]
  simp
  grind
theorem rT_Aw {j : Nat} (hj : j < n) : (rT n v w).Aw U j = Tn n U j - Tn n U (j + 1) := by
  unfold Tk.Aw
  show (sumN (n - 1) fun i => ((if j = i + 1 then (1 : Int) else if j = i then -1 else 0 : Int) : Rat) * U i) = _
  have e : (sumN (n - 1) fun i => ((if j = i + 1 then (1 : Int) else if j = i then -1 else 0 : Int) : Rat) * U i) = (sumN (n - 1) fun i => if i + 1 = j then U i else 0) + sumN (n - 1) fun i => if i = j then - U i else 0 := by
    rw [← sumN_add]
    refine sumN_congr fun i hi => ?_
    by_cases h1 : j = i + 1
    · have h2 : ¬ i = i + 1 := by omega
      simp [h1, h2]
      grind
    · by_cases h2 : j = i
      · have h3 : ¬ i + 1 = i := by omega
        simp [h2, h3]
        grind
      · have h1' : ¬ i + 1 = j := fun z => h1 z.symm
        have h2' : ¬ i = j := fun z => h2 z.symm
        simp [h1, h2, h1', h2']
        grind
  rw [e]
  have e1 : (sumN (n - 1) fun i => if i + 1 = j then U i else 0) = Tn n U j := by
    unfold Tn
    by_cases h0 : j = 0
    · rw [if_pos (.inl h0)]
      exact sumN_zero fun i hi => if_neg (by omega)
    · rw [if_neg (by omega), sumN_one (a := j - 1) (by omega) fun i _ h => if_neg (by omega), if_pos (by omega)]
  have e2 : (sumN (n - 1) fun i => if i = j then - U i else 0) = - Tn n U (j + 1) := by
    unfold Tn
    by_cases h0 : n ≤ j + 1
    · rw [if_pos (.inr h0)]
      rw [sumN_zero fun i hi => if_neg (by omega)]
      grind
    · rw [if_neg (by omega), sumN_one (a := j) (by omega) fun i _ h => if_neg h, if_pos rfl]
      rfl
  rw [e1, e2]
  grind
structure Rise (n : Nat) (v w : Nat → Int) (x U : Nat → Rat) : Prop where
  up : ∀ i, i < n - 1 → x i ≤ x (i + 1)
  pos : ∀ i, i < n - 1 → 0 ≤ U i
  fit : ∀ i, i < n - 1 → U i * (x (i + 1) - x i) = 0
  st : ∀ j, j < n → (w j : Rat) * x j - (v j : Rat) * (w j : Rat) = Tn n U j - Tn n U (j + 1)
theorem rise_iff : (rT n v w).Shows 0 x U ↔ Rise n v w x U := by
  constructor
  · intro h
    refine ⟨fun i hi => ?_, fun i hi => (h.1 i hi).2.1, fun i hi => ?_, fun j hj => ?_⟩
    · have := (h.1 i hi).1
      rw [rT_gap hi] at this
      grind
    · have := FitAt.zero (h.1 i hi)
      rwa [rT_gap hi] at this
    · have := h.2 j hj
      rwa [rT_slope hj, rT_Aw hj] at this
  · intro h
    refine ⟨fun i hi => fit_of ?_ (h.pos i hi) ?_, fun j hj => ?_⟩
    · rw [rT_gap hi]
      have := h.up i hi
      grind
    · rw [rT_gap hi]
      exact h.fit i hi
    · have hj' : j < n := hj
      rw [rT_slope hj', rT_Aw hj']
      exact h.st j hj'
theorem Rise.sum (h : Rise n v w x U) : ∀ {k : Nat}, k ≤ n → (sumN k fun j => (w j : Rat) * x j - (v j : Rat) * (w j : Rat)) = - Tn n U k
  | 0, _ => by
    unfold Tn sumN
    simp
  | k + 1, hk => by
    have e : (sumN (k + 1) fun j => (w j : Rat) * x j - (v j : Rat) * (w j : Rat)) = (sumN k fun j => (w j : Rat) * x j - (v j : Rat) * (w j : Rat)) + ((w k : Rat) * x k - (v k : Rat) * (w k : Rat)) := rfl
    rw [e, h.sum (k := k) (by omega), h.st k (by omega)]
    grind
theorem Rise.part (h : Rise n v w x U) {lo hi : Nat} (h1 : lo ≤ hi) (h2 : hi < n) : (sumN (hi + 1 - lo) fun k => (w (lo + k) : Rat) * x (lo + k)) - topN v w lo hi = Tn n U lo - Tn n U (hi + 1) := by
  have e1 := h.sum (k := hi + 1) (by omega)
  have e2 := h.sum (k := lo) (by omega)
  have e3 := sumN_split (n := lo) (m := hi + 1 - lo) (f := fun j => (w j : Rat) * x j - (v j : Rat) * (w j : Rat))
  rw [show lo + (hi + 1 - lo) = hi + 1 by omega, e1, e2, sumN_sub] at e3
  unfold topN
  grind
theorem Rise.mono (h : Rise n v w x U) {i : Nat} : ∀ {k : Nat}, i + k < n → x i ≤ x (i + k)
  | 0, _ => Rat.le_refl
  | k + 1, hk => Rat.le_trans (h.mono (i := i) (k := k) (by omega)) (h.up (i + k) (by omega))
/-- the stretch of a place begins -/
theorem Rise.lo (h : Rise n v w x U) : ∀ {a : Nat}, a < n → ∃ lo, lo ≤ a ∧ Tn n U lo = 0 ∧ ∀ j, lo ≤ j → j ≤ a → x j = x a
  | 0, _ => ⟨0, Nat.le_refl _, if_pos (.inl rfl), fun j _ hj => by rw [show j = 0 by omega]⟩
  | a + 1, ha => by
    by_cases hU : U a = 0
    · exact ⟨a + 1, Nat.le_refl _, by unfold Tn; split; rfl; exact hU, fun j h1 h2 => by rw [show j = a + 1 by omega]⟩
    · obtain ⟨lo, h1, h2, h3⟩ := h.lo (a := a) (by omega)
      have e := h.fit a (by omega)
      have : x (a + 1) = x a := by
        rcases Rat.mul_eq_zero.mp e with z | z
        · exact absurd z hU
        · grind
      refine ⟨lo, by omega, h2, fun j g1 g2 => ?_⟩
      by_cases ej : j = a + 1
      · rw [ej]
      · rw [h3 j g1 (by omega), this]
theorem Rise.hi (h : Rise n v w x U) : ∀ {d a : Nat}, a + d + 1 = n → ∃ hi, a ≤ hi ∧ hi < n ∧ Tn n U (hi + 1) = 0 ∧ ∀ j, a ≤ j → j ≤ hi → x j = x a
  | 0, a, ha => ⟨a, Nat.le_refl _, by omega, if_pos (.inr (by omega)), fun j h1 h2 => by rw [show j = a by omega]⟩
  | d + 1, a, ha => by
    by_cases hU : U a = 0
    · exact ⟨a, Nat.le_refl _, by omega, by unfold Tn; split; rfl; exact hU, fun j h1 h2 => by rw [show j = a by omega]⟩
    · obtain ⟨hi, h1, h1', h2, h3⟩ := h.hi (d := d) (a := a + 1) (by omega)
      have e := h.fit a (by omega)
      have : x (a + 1) = x a := by
        rcases Rat.mul_eq_zero.mp e with z | z
        · exact absurd z hU
        · grind
      refine ⟨hi, by omega, h1', h2, fun j g1 g2 => ?_⟩
      by_cases ej : j = a
      · rw [ej]
      · rw [h3 j (by omega) g2, this]
theorem Tn_pos (h : Rise n v w x U) {k : Nat} : 0 ≤ Tn n U k := by
  unfold Tn
  split
  · exact Rat.le_refl
  · exact h.pos _ (by omega)
theorem lowN_pos (hw : ∀ i, i < n → 0 < w i) {lo hi : Nat} (h1 : lo ≤ hi) (h2 : hi < n) : 0 < lowN w lo hi := by
  have hp : ∀ i, i < n → (0 : Rat) < (w i : Rat) := fun i hi => by exact_mod_cast hw i hi
  unfold lowN
  exact sumN_pos (a := 0) (by omega) (fun k hk => Rat.le_of_lt (hp _ (by omega))) (hp _ (by omega))
theorem mean_mul (hw : ∀ i, i < n → 0 < w i) {lo hi : Nat} (h1 : lo ≤ hi) (h2 : hi < n) : meanN v w lo hi * lowN w lo hi = topN v w lo hi := by
  have := lowN_pos hw h1 h2
  unfold meanN
  exact Rat.div_mul_cancel (by grind)
theorem le_cancel {a b c : Rat} (hc : 0 < c) (h : a * c ≤ b * c) : a ≤ b := Rat.not_lt.mp fun z => by
  have := Rat.mul_lt_mul_of_pos_right z hc
  grind
theorem Rise.due (hw : ∀ i, i < n → 0 < w i) (h : Rise n v w x U) {a : Nat} (ha : a < n) : x a = dueN n v w a := by
  have hp : ∀ i, i < n → (0 : Rat) ≤ (w i : Rat) := fun i hi => Rat.le_of_lt (by exact_mod_cast hw i hi)
  have e1 : ∀ lo hi, (sumN (hi + 1 - lo) fun k => (w (lo + k) : Rat) * x a) = x a * lowN w lo hi := fun lo hi => by
    unfold lowN
    rw [← sumN_mul]
    exact sumN_congr fun k _ => Rat.mul_comm ..
  have c1 : x a ≤ dueN n v w a := by
    obtain ⟨lo, l1, l2, l3⟩ := h.lo ha
    refine Rat.le_trans (minN_ge fun k hk => ?_) (maxN_ge (i := lo) l1)
    have hi1 : a + k < n := by omega
    refine le_cancel (lowN_pos hw (lo := lo) (hi := a + k) (by omega) hi1) ?_
    rw [mean_mul hw (by omega) hi1, ← e1]
    have e2 := h.part (lo := lo) (hi := a + k) (by omega) hi1
    have e3 := Tn_pos h (k := a + k + 1)
    have e4 : (sumN (a + k + 1 - lo) fun j => (w (lo + j) : Rat) * x a) ≤ sumN (a + k + 1 - lo) fun j => (w (lo + j) : Rat) * x (lo + j) := sumN_le fun j hj => by
      refine Rat.mul_le_mul_of_nonneg_left ?_ (hp _ (by omega))
      by_cases g : lo + j ≤ a
      · rw [l3 _ (by omega) g]
        exact Rat.le_refl
      · have := h.mono (i := a) (k := lo + j - a) (by omega)
        rwa [show a + (lo + j - a) = lo + j by omega] at this
    grind
  have c2 : dueN n v w a ≤ x a := by
    obtain ⟨hi, l1, l1', l2, l3⟩ := h.hi (d := n - 1 - a) (a := a) (by omega)
    refine maxN_le fun lo hlo => Rat.le_trans (minN_le (i := hi - a) (by omega)) ?_
    rw [show a + (hi - a) = hi by omega]
    refine le_cancel (lowN_pos hw (lo := lo) (hi := hi) (by omega) l1') ?_
    rw [mean_mul hw (by omega) l1', ← e1]
    have e2 := h.part (lo := lo) (hi := hi) (by omega) l1'
    have e3 := Tn_pos h (k := lo)
    have e4 : (sumN (hi + 1 - lo) fun j => (w (lo + j) : Rat) * x (lo + j)) ≤ sumN (hi + 1 - lo) fun j => (w (lo + j) : Rat) * x a := sumN_le fun j hj => by
      refine Rat.mul_le_mul_of_nonneg_left ?_ (hp _ (by omega))
      by_cases g : a ≤ lo + j
      · rw [l3 _ g (by omega)]
        exact Rat.le_refl
      · have := h.mono (i := lo + j) (k := a - (lo + j)) (by omega)
        rwa [show lo + j + (a - (lo + j)) = a by omega] at this
    grind
  grind
/-- sorted values stand -/
theorem Rise.same (hs : ∀ i, i < n - 1 → v i ≤ v (i + 1)) : Rise n v w (fun i => (v i : Rat)) fun _ => 0 where
  up := fun i hi => by exact_mod_cast hs i hi
  pos := fun i _ => Rat.le_refl
  fit := fun i _ => Rat.zero_mul ..
  st := fun j hj => by
    unfold Tn
    split <;> split <;> grind
/-- all values moved, all weights times one number -/
theorem Rise.moved (h : Rise n v w x U) {m c : Int} (hc : 0 ≤ c) : Rise n (fun i => v i + m) (fun i => c * w i) (fun i => x i + (m : Rat)) fun i => (c : Rat) * U i where
  up := fun i hi => by
    have := h.up i hi
    grind
  pos := fun i hi => Rat.mul_nonneg (by exact_mod_cast hc) (h.pos i hi)
  fit := fun i hi => by
    have := h.fit i hi
    grind
  st := fun j hj => by
    have e := h.st j hj
    have e1 : ∀ k, Tn n (fun i => (c : Rat) * U i) k = (c : Rat) * Tn n U k := fun k => by
      unfold Tn
      split
      · rw [Rat.mul_zero]
      · rfl
    rw [e1, e1]
    simp only [Rat.intCast_mul, Rat.intCast_add]
    grind
/-- what rising tells -/
theorem rising_ok (h1 : 1 ≤ n) (h4 : n ≤ 4) (hv : ∀ i, i < n → (v i).natAbs ≤ 1000) (hw : ∀ i, i < n → 0 < w i) (hws : ∀ i, i < n → (w i).natAbs ≤ 1000) (hc : ∀ i, i < n → (v i * w i).natAbs ≤ 4000) :
    ∃ x U, F_rising [iT n v, iT n w] = some (vT n x) ∧ Rise n v w x U := by
  have ok := rT_ok h1 h4 hw hws hc
  obtain ⟨d, e, e1, he, hd⟩ := F_rising_eq h1 h4 hv hw hws hc
  rcases he with ⟨W, rfl, hb, _⟩ | ⟨l, x, U, rfl, hi, hg⟩
  · refine (Bars.no (z := fun _ => 0) hb fun i hi => ?_).elim
    rw [rT_gap hi]
    grind
  · simp at hd
    subst hd
    exact ⟨x, U, e1, rise_iff.mp (hi.shows hg)⟩
theorem Rise.uni (h1 : 1 ≤ n) (h4 : n ≤ 4) (hw : ∀ i, i < n → 0 < w i) (hws : ∀ i, i < n → (w i).natAbs ≤ 1000) (hc : ∀ i, i < n → (v i * w i).natAbs ≤ 4000) {y Y : Nat → Rat} (h : Rise n v w x U) (h' : Rise n v w y Y) : ∀ j, j < n → x j = y j :=
  Shows.uni (rT_ok h1 h4 hw hws hc) (rise_iff.mpr h) (rise_iff.mpr h')
end
end PX

namespace PX
open PySem L2 DL PG
/-! ### what laws compare -/
theorem alike_vec {k n : Nat} {f : Nat → D} (hn : n ≤ 1000000) (h : ∀ i, i < n → F_law_alike_ k [f i, f i] = some (.bool true)) : F_law_alike_ (k + 1) [.tuple (vecF n f), .tuple (vecF n f)] = some (.bool true) := by
  refine run_of (w := ([], 0, 0, 0)) rfl ?_
  unfold g_law_alike
  simp [d_range hn, lst_its hn]
  rw [lcGo_filter (φ := fun i => .int (i : Nat)) (t := fun _ => false)]
  · have ef : (List.range n).filter (fun _ => false) = [] := List.filter_eq_nil_iff.mpr fun i _ => by simp
    simp [ef]
    rw [d_eqNil (k := 0) (fun d hd => by cases hd) (by decide)]
    rfl
  · intro i hi
    refine ⟨⟨([], 0, 0, 0), [.s (.tuple (vecF n f)), .s (.tuple (vecF n f)), .s (.int (i : Nat))]⟩, ?_, ?_, ?_⟩
    · simp [Ev.wipe, wipeS]
    · simp [atI_vec hi, h i hi]
    · intro z
      cases z
theorem alike_frK {k : Nat} {q : Rat} : F_law_alike_ (k + 2) [frD q, frD q] = some (.bool true) := by
  have e : frD q = .tuple (vecF 2 fun i => .int (if i = 0 then q.num else (q.den : Nat))) := rfl
  rw [e]
  exact alike_vec (by decide) fun i _ => alike_int
theorem alike_vT {n : Nat} {x : Nat → Rat} (hn : n ≤ 1000000) : F_law_alike [vT n x, vT n x] = some (.bool true) := alike_vec (k := 7) hn fun i _ => alike_frK
theorem sh_vT {n : Nat} {u : Nat → Rat} : Sh 2 (vT n u) := sh_tuple fun d hd => by
  obtain ⟨i, _, rfl⟩ := mem_vec hd
  exact sh_frD _
theorem eqv_vT {n : Nat} {u v : Nat → Rat} : PyData.eqv (vT n u) (vT n v) = true ↔ ∀ i, i < n → u i = v i := by
  unfold vT
  rw [PyData.eqv, eqvAll_vec]
  exact ⟨fun h i hi => eqv_frD.mp (h i hi), fun h i hi => eqv_frD.mpr (h i hi)⟩
theorem eq_vT {n : Nat} {u : Nat → Rat} : dEq (vT n u) (vT n u) = some (.bool true) := by
  rw [d_eqSh sh_vT sh_vT (by decide) (by decide), eqv_vT.mpr fun i _ => rfl]
theorem ne_vT {n : Nat} {u : Nat → Rat} : dNe (vT n u) (vT n u) = some (.bool false) := by
  rw [d_neSh sh_vT sh_vT (by decide) (by decide), eqv_vT.mpr fun i _ => rfl]
  rfl
theorem d_sumT {n : Nat} {f : Nat → Int} : dSum (.tuple (vecF n fun i => .int (f i))) = some (.int (isum n f)) := by
  unfold dSum
  simp only [toInts_vec]
  rfl
theorem cut_mid {n lo k : Nat} {f : Nat → D} (h : lo + k ≤ n) : cutD (vecF n f) (some (lo : Int)) (some ((lo + k : Nat) : Int)) = vecF k fun i => f (lo + i) := by
  unfold cutD
  rw [vecF_len, sIx_n (m := n) (n := lo + k) h, sIx_n (m := n) (n := lo) (by omega)]
  obtain ⟨r, rfl⟩ : ∃ r, n = lo + (k + r) := ⟨n - lo - k, by omega⟩
  rw [vecF_drop, show lo + k - lo = k by omega, vecF_take]
theorem dSl_iT {n lo k : Nat} {w : Nat → Int} (h : lo + k ≤ n) : dSl (iT n w) (some (lo : Int)) (some ((lo + k : Nat) : Int)) = some (iT k fun i => w (lo + i)) := by
  unfold iT
  show some (PyData.tuple (cutD _ _ _)) = _
  rw [cut_mid h]
section
variable {n : Nat} {v w : Nat → Int}
theorem F_law_mean {lo hi : Nat} (hw : ∀ i, i < n → 0 < w i) (h1 : lo ≤ hi) (h2 : hi < n) : F_law_fr [.int (isum (hi + 1 - lo) fun k => v (lo + k) * w (lo + k)), .int (isum (hi + 1 - lo) fun k => w (lo + k))] = some (frD (meanN v w lo hi)) := by
  have hp := lowN_pos hw h1 h2
  have e1 : ((isum (hi + 1 - lo) fun k => w (lo + k) : Int) : Rat) = lowN w lo hi := isum_cast
  have e2 : ((isum (hi + 1 - lo) fun k => v (lo + k) * w (lo + k) : Int) : Rat) = topN v w lo hi := by
    rw [isum_cast]
    unfold topN
    exact sumN_congr fun k _ => Rat.intCast_mul ..
  have h0 : (isum (hi + 1 - lo) fun k => w (lo + k)) ≠ 0 := fun z => by
    rw [z] at e1
    rw [← e1] at hp
    exact absurd hp (by decide)
  rw [F_law_fr_eq h0, Rat.divInt_eq_div, e1, e2]
  rfl
theorem meanN_sz {lo hi : Nat} (hw : ∀ i, i < n → 0 < w i) (h5 : ∀ i, i < n → (w i).natAbs ≤ 5) (hv : ∀ i, i < n → (v i).natAbs ≤ 200) (hn : n ≤ 4) (h1 : lo ≤ hi) (h2 : hi < n) : Sz 12 (meanN v w lo hi) := by
  have hp := lowN_pos hw h1 h2
  have e1 : ((isum (hi + 1 - lo) fun k => w (lo + k) : Int) : Rat) = lowN w lo hi := isum_cast
  have e2 : ((isum (hi + 1 - lo) fun k => v (lo + k) * w (lo + k) : Int) : Rat) = topN v w lo hi := by
    rw [isum_cast]
    unfold topN
    exact sumN_congr fun k _ => Rat.intCast_mul ..
  have h0 : (isum (hi + 1 - lo) fun k => w (lo + k)) ≠ 0 := fun z => by
    rw [z] at e1
    rw [← e1] at hp
    exact absurd hp (by decide)
  have b1 := isum_le (n := hi + 1 - lo) (b := 5) (f := fun k => w (lo + k)) fun k hk => h5 _ (by omega)
  have b2 := isum_le (n := hi + 1 - lo) (b := 1000) (f := fun k => v (lo + k) * w (lo + k)) fun k hk => by
    rw [Int.natAbs_mul]
    exact Nat.mul_le_mul (hv _ (by omega)) (h5 _ (by omega))
  unfold meanN
  rw [← e1, ← e2, ← Rat.divInt_eq_div]
  have e : (2 : Nat) ^ 12 = 4096 := rfl
  exact Sz.divInt (by omega) (by omega) h0
theorem minN_sz {p k : Nat} {f : Nat → Rat} (h : ∀ i, i ≤ k → Sz p (f i)) : Sz p (minN f k) := by
  induction k with
  | zero => exact h 0 (Nat.le_refl _)
  | succ k ih =>
    unfold minN
    split
    · exact h _ (Nat.le_refl _)
    · exact ih fun i hi => h i (by omega)
theorem maxN_sz {p k : Nat} {f : Nat → Rat} (h : ∀ i, i ≤ k → Sz p (f i)) : Sz p (maxN f k) := by
  induction k with
  | zero => exact h 0 (Nat.le_refl _)
  | succ k ih =>
    unfold maxN
    split
    · exact h _ (Nat.le_refl _)
    · exact ih fun i hi => h i (by omega)
theorem list_vec {l : List Int} (h : l.length = n) : l = vecF n fun i => l.getD i 0 := by
  subst h
  refine List.ext_getElem? fun i => ?_
  unfold vecF
  rw [List.getElem?_map]
  by_cases hi : i < l.length
  · rw [List.getElem?_range hi]
    simp [hi]
  · rw [List.getElem?_eq_none (by omega), List.getElem?_eq_none (by simp; omega)]
    rfl
/-- values sorted -/
theorem sorted_iT : ∃ u : Nat → Int, dSorted (iT n v) = some (.list (vecF n fun i => .int (u i))) ∧ (∀ i, i < n - 1 → u i ≤ u (i + 1)) ∧ ∀ i, i < n → ∃ j, j < n ∧ u i = v j := by
  have hl : (srtI (vecF n v)).length = n := by rw [(srtI_perm _).length_eq, vecF_len]
  obtain ⟨u, hu⟩ : ∃ u, srtI (vecF n v) = vecF n u := ⟨_, list_vec hl⟩
  refine ⟨u, ?_, fun i hi => ?_, fun i hi => ?_⟩
  · unfold dSorted iT
    simp only [toInts_vec, hu]
    unfold vecF
    rw [List.map_map]
    rfl
  · have := srtI_pw (vecF n v)
    rw [hu, List.pairwise_iff_getElem] at this
    have a := this i (i + 1) (by simp; omega) (by simp; omega) (by omega)
    simpa [vecF] using a
  · have hm : u i ∈ vecF n v := by
      refine (srtI_perm _).mem_iff.mp ?_
      rw [hu]
      exact List.mem_map.mpr ⟨i, List.mem_range.mpr hi, rfl⟩
    obtain ⟨j, hj, e⟩ := mem_vec hm
    exact ⟨j, hj, e⟩
end
end PX

namespace PU
open PySem L2 DL PG PX
def OkT : Oc → Prop := fun oc => ∃ w', oc = .ret (.bool true) w'
theorem okT {w : DL.Row} : wp (some (.ret (.bool true) w)) OkT := ⟨_, rfl, _, rfl⟩
theorem pick_ok {w : DL.Row} (hw : RowOk w) : ∃ (z : Nat) (w' : DL.Row), F_law_pick [.row, .s (.list [.int 3, .int 9, .int 200])] w = some (.int (z : Nat), w') ∧ RowOk w' ∧ z ≤ 200 := by
  obtain ⟨k, w', e, hw', hk⟩ := taken_ok (m := 3) hw (by decide)
  have h : k = 0 ∨ k = 1 ∨ k = 2 := by omega
  rcases h with rfl | rfl | rfl
  · refine ⟨3, w', def_of rfl ?_, hw', by decide⟩
    unfold g_law_pick
    simp [e]
  · refine ⟨9, w', def_of rfl ?_, hw', by decide⟩
    unfold g_law_pick
    simp [e]
  · refine ⟨200, w', def_of rfl ?_, hw', by decide⟩
    unfold g_law_pick
    simp [e]
def leastD (n : Nat) (v w : Nat → Int) (a lo : Nat) : Nat → D
  | 0 => .none
  | h + 1 => frD (minN (fun k => meanN v w lo (a + k)) h)
def bestD (n : Nat) (v w : Nat → Int) (a : Nat) : Nat → D
  | 0 => .none
  | l + 1 => frD (maxN (fun lo => minN (fun k => meanN v w lo (a + k)) (n - 1 - a)) l)
def slA (n z : Nat) (v w : Nat → Int) (a : Nat) (s7 s8 s9 s10 s11 s12 s13 : Sl) : List Sl := [.no, .row, .s (.int (n : Nat)), .s (.int (z : Nat)), .s (iT n v), .s (iT n w), .o (vecF a fun i => frD (dueN n v w i)), s7, s8, s9, s10, s11, s12, s13, .no, .no, .no, .no, .no]
theorem law_true (ns : List Int) (h : ns.length ≤ 63) : ∃ w', g_law (ev0 5805 19 ns) = some (.ret (.bool true) w') := by
  suffices hs : wp (g_law (ev0 5805 19 ns)) OkT by
    obtain ⟨oc, e, w', rfl⟩ := hs
    exact ⟨w', e⟩
  obtain ⟨n0, w1, e1, hw1, hn0⟩ := taken_ok (m := 4) (rowOk0 h (by decide : (0 : Int) ≤ 5805) (by decide)) (by decide)
  obtain ⟨z, w2, e2, hw2, hz⟩ := pick_ok hw1
  obtain ⟨n, hn⟩ : ∃ n, n = n0 + 1 := ⟨_, rfl⟩
  have e0 : (1 : Int) + (n0 : Int) = (n : Int) := by omega
  have h1 : 1 ≤ n := by omega
  have h4 : n ≤ 4 := by omega
  unfold g_law ev0
  simp [e1, e2, e0, d_range (show n ≤ 1000000 by omega), lst_its (show n ≤ 1000000 by omega)]
  have hnum := fun (sl : List Sl) => lcGo_draw (vs := [7]) (fg := gtName 7) (ft := mRet true) (fe := mCallG F_law_number (mConsRow 1 (mConsS (mVar 3) (mRet [])))) (n := n) (c := fun i => .int (i : Nat)) (sl := [.no, .row, .s (.int (n : Nat)), .s (.int (z : Nat)), .no, .no, .no, .no, .no, .no, .no, .no, .no, .no, .no, .no, .no, .no, .no]) RowOk (fun _ (q : Int) => q.natAbs ≤ 200) PyData.int hw2 (fun i w hi hw => by
    obtain ⟨k, w', a1, a2, a3⟩ := number_ok (z := z) hw (by omega)
    refine ⟨⟨w, [.no, .row, .s (.int (n : Nat)), .s (.int (z : Nat)), .no, .no, .no, .s (.int (i : Nat)), .no, .no, .no, .no, .no, .no, .no, .no, .no, .no, .no]⟩, k, w', ?_, rfl, ?_, a2, by omega⟩
    · simp [Ev.wipe, wipeS]
    · simp [a1])
  obtain ⟨v, w3, e3, hw3, hv⟩ := hnum []
  try simp at e3
  rw [e3]
  simp [d_range (show n ≤ 1000000 by omega), lst_its (show n ≤ 1000000 by omega)]
  have hwei := fun (sl : List Sl) => lcGo_draw (vs := [7]) (fg := gtName 7) (ft := mRet true) (fe := mOp dAddI (mRet (.int 1)) (mCallG F_law_taken (mConsRow 1 (mConsS (mRet (.int 5)) (mRet []))))) (n := n) (c := fun i => .int (i : Nat)) (sl := [.no, .row, .s (.int (n : Nat)), .s (.int (z : Nat)), .s (iT n v), .no, .no, .no, .no, .no, .no, .no, .no, .no, .no, .no, .no, .no, .no]) RowOk (fun _ (q : Int) => 0 < q ∧ q ≤ 5) PyData.int hw3 (fun i w hi hw => by
    obtain ⟨k, w', a1, a2, a3⟩ := taken_ok (m := 5) hw (by decide)
    refine ⟨⟨w, [.no, .row, .s (.int (n : Nat)), .s (.int (z : Nat)), .s (iT n v), .no, .no, .s (.int (i : Nat)), .no, .no, .no, .no, .no, .no, .no, .no, .no, .no, .no]⟩, 1 + (k : Int), w', ?_, rfl, ?_, a2, by omega⟩
    · simp [Ev.wipe, wipeS]
    · simp [a1])
  obtain ⟨w, w4, e4, hw4, hwp⟩ := hwei []
  rw [show (PyData.tuple (vecF n fun i => PyData.int (v i)) : D) = iT n v from rfl]
  try simp at e4
  rw [e4]
  simp [d_range (show n ≤ 1000000 by omega), lst_its (show n ≤ 1000000 by omega)]
  rw [show (PyData.tuple (vecF n fun i => PyData.int (w i)) : D) = iT n w from rfl]
  have hpos : ∀ i, i < n → 0 < w i := fun i hi => (hwp i hi).1
  have hw5 : ∀ i, i < n → (w i).natAbs ≤ 5 := fun i hi => by have := hwp i hi; omega
  refine wp_thn (fun ρ => ∃ s7 s8 s9 s10 s11 s12 s13, ρ = ⟨w4, slA n z v w n s7 s8 s9 s10 s11 s12 s13⟩) ?_ ?_
  · refine wp_for (fun a ρ => ∃ s7 s8 s9 s10 s11 s12 s13, ρ = ⟨w4, slA n z v w a s7 s8 s9 s10 s11 s12 s13⟩) ⟨_, _, _, _, _, _, _, rfl⟩ ?_ (fun ρ h => h)
    rintro a ρ ha ⟨s7, s8, s9, s10, s11, s12, s13, rfl⟩
    unfold slA
    have c1 : dRange (.int 0) (.int ((a : Int) + 1)) = some (vecF (a + 1) fun i => .int (i : Nat)) := by
      rw [show (a : Int) + 1 = ((a + 1 : Nat) : Int) by omega]
      exact d_range (show a + 1 ≤ 1000000 by omega)
    simp [c1, lst_its (show a + 1 ≤ 1000000 by omega)]
    refine wp_thn (fun ρ => ∃ s9 s10 s11 s12 s13, ρ = ⟨w4, slA n z v w a (.s (.int (a : Nat))) (.s (bestD n v w a (a + 1))) s9 s10 s11 s12 s13⟩) ?_ ?_
    · refine wp_for (fun l ρ => ∃ s9 s10 s11 s12 s13, ρ = ⟨w4, slA n z v w a (.s (.int (a : Nat))) (.s (bestD n v w a l)) s9 s10 s11 s12 s13⟩) ⟨_, _, _, _, _, rfl⟩ ?_ (fun ρ h => h)
      rintro l ρ hl ⟨s9, s10, s11, s12, s13, rfl⟩
      unfold slA
      simp [d_range2 (show n ≤ 1000000 by omega) (show a ≤ 1000000 by omega), lst_its (show n - a ≤ 1000000 by omega)]
      refine wp_thn (fun ρ => ∃ s11 s12 s13, ρ = ⟨w4, slA n z v w a (.s (.int (a : Nat))) (.s (bestD n v w a l)) (.s (.int (l : Nat))) (.s (leastD n v w a l (n - a))) s11 s12 s13⟩) ?_ ?_
      · refine wp_for (fun h ρ => ∃ s11 s12 s13, ρ = ⟨w4, slA n z v w a (.s (.int (a : Nat))) (.s (bestD n v w a l)) (.s (.int (l : Nat))) (.s (leastD n v w a l h)) s11 s12 s13⟩) ⟨_, _, _, rfl⟩ ?_ (fun ρ h => h)
        rintro h ρ hh ⟨s11, s12, s13, rfl⟩
        unfold slA
        have c2 : dRange (.int (l : Int)) (.int ((a : Int) + (h : Int) + 1)) = some (vecF (a + h + 1 - l) fun i => .int ((l + i : Nat) : Int)) := by
          rw [show (a : Int) + (h : Int) + 1 = ((a + h + 1 : Nat) : Int) by omega]
          exact d_range2 (by omega) (by omega)
        have c3 : dSl (iT n w) (some (l : Int)) (some ((a : Int) + (h : Int) + 1)) = some (iT (a + h + 1 - l) fun i => w (l + i)) := by
          rw [show (a : Int) + (h : Int) + 1 = ((l + (a + h + 1 - l) : Nat) : Int) by omega]
          exact dSl_iT (by omega)
        simp [c2, c3, lst_its (show a + h + 1 - l ≤ 1000000 by omega)]
        rw [lcGo_vec (φ := fun i => .int (v (l + i) * w (l + i)))]
        · have e5 : dSum (iT (a + h + 1 - l) fun i => w (l + i)) = some (.int (isum (a + h + 1 - l) fun i => w (l + i))) := d_sumT
          have e6 := F_law_mean (n := n) (v := v) (w := w) (lo := l) (hi := a + h) hpos (by omega) (by omega)
          simp [d_sum, c3, e5, e6]
          have zm : ∀ k, a + k < n → Sz 12 (meanN v w l (a + k)) := fun k hk => meanN_sz hpos hw5 hv h4 (by omega) hk
          cases h with
          | zero =>
            simp [leastD]
            exact wp_some ⟨_, _, _, rfl⟩
          | succ h =>
            have e7 := F_law_below_eq (zm (h + 1) (by omega)) (minN_sz (k := h) (f := fun k => meanN v w l (a + k)) fun i hi => zm i (by omega)) (by decide)
            by_cases hlt : meanN v w l (a + (h + 1)) < minN (fun k => meanN v w l (a + k)) h
            · simp [leastD, e7, hlt]
              rw [show minN (fun k => meanN v w l (a + k)) (h + 1) = meanN v w l (a + (h + 1)) by rw [minN, if_pos hlt]]
              exact wp_some ⟨_, _, _, rfl⟩
            · simp [leastD, e7, hlt]
              rw [show minN (fun k => meanN v w l (a + k)) (h + 1) = minN (fun k => meanN v w l (a + k)) h by rw [minN, if_neg hlt]]
              exact wp_some ⟨_, _, _, rfl⟩
        · intro i hi
          refine ⟨⟨w4, [.no, .row, .s (.int (n : Nat)), .s (.int (z : Nat)), .s (iT n v), .s (iT n w), .o (vecF a fun i => frD (dueN n v w i)), .s (.int (a : Nat)), .s (bestD n v w a l), .s (.int (l : Nat)), .s (leastD n v w a l h), .s (.int ((a : Int) + (h : Int))), s12, s13, .no, .no, .no, .s (.int ((l : Int) + (i : Int))), .no]⟩, ?_, rfl, ?_⟩
          · simp [Ev.wipe, wipeS]
          · have f1 := ix_its (its_iT (n := n) (v := v)) (show l + i < n by omega)
            have f2 := ix_its (its_iT (n := n) (v := w)) (show l + i < n by omega)
            rw [Int.natCast_add] at f1 f2
            have f3 := mulOk_s (i := v (l + i)) (j := w (l + i)) (by have := hv (l + i) (by omega); omega) (by have := hw5 (l + i) (by omega); omega)
            simp [f1, f2, f3]
      · rintro ρ ⟨s11, s12, s13, rfl⟩
        unfold slA
        have hl' : leastD n v w a l (n - a) = frD (minN (fun k => meanN v w l (a + k)) (n - 1 - a)) := by
          rw [show n - a = (n - 1 - a) + 1 by omega]
          rfl
        rw [hl']
        have zl : ∀ l, l ≤ a → Sz 12 (minN (fun k => meanN v w l (a + k)) (n - 1 - a)) := fun l hl => minN_sz fun i hi => meanN_sz hpos hw5 hv h4 (by omega) (by omega)
        cases l with
        | zero =>
          simp [bestD]
          exact wp_some ⟨_, _, _, _, _, rfl⟩
        | succ l =>
          have e7 := F_law_below_eq (maxN_sz (k := l) (f := fun lo => minN (fun k => meanN v w lo (a + k)) (n - 1 - a)) fun i hi => zl i (by omega)) (zl (l + 1) (by omega)) (by decide)
          by_cases hlt : maxN (fun lo => minN (fun k => meanN v w lo (a + k)) (n - 1 - a)) l < minN (fun k => meanN v w (l + 1) (a + k)) (n - 1 - a)
          · simp [bestD, e7, hlt]
            rw [show maxN (fun lo => minN (fun k => meanN v w lo (a + k)) (n - 1 - a)) (l + 1) = minN (fun k => meanN v w (l + 1) (a + k)) (n - 1 - a) by rw [maxN, if_pos hlt]]
            exact wp_some ⟨_, _, _, _, _, rfl⟩
          · simp [bestD, e7, hlt]
            rw [show maxN (fun lo => minN (fun k => meanN v w lo (a + k)) (n - 1 - a)) (l + 1) = maxN (fun lo => minN (fun k => meanN v w lo (a + k)) (n - 1 - a)) l by rw [maxN, if_neg hlt]]
            exact wp_some ⟨_, _, _, _, _, rfl⟩
    · rintro ρ ⟨s9, s10, s11, s12, s13, rfl⟩
      unfold slA
      simp [bestD]
      rw [ap_o (by simp; omega), show vecF a (fun i => frD (dueN n v w i)) ++ [frD (maxN (fun lo => minN (fun k => meanN v w lo (a + k)) (n - 1 - a)) a)] = vecF (a + 1) fun i => frD (dueN n v w i) from vecF_succ.symm]
      exact wp_some ⟨_, _, _, _, _, _, _, rfl⟩
  · rintro ρ ⟨s7, s8, s9, s10, s11, s12, s13, rfl⟩
    unfold slA
    have hc : ∀ i, i < n → (v i * w i).natAbs ≤ 4000 := fun i hi => by
      rw [Int.natAbs_mul]
      have := Nat.mul_le_mul (hv i hi) (hw5 i hi)
      omega
    have hws : ∀ i, i < n → (w i).natAbs ≤ 1000 := fun i hi => by have := hw5 i hi; omega
    obtain ⟨x, U, r1, r2⟩ := rising_ok (v := v) (w := w) h1 h4 (fun i hi => by have := hv i hi; omega) hpos hws hc
    have ed : (PyData.tuple (vecF n fun i => frD (dueN n v w i)) : D) = vT n x := vT_congr fun i hi => (r2.due hpos hi).symm
    obtain ⟨u, u1, u2, u3⟩ := sorted_iT (n := n) (v := v)
    have hu : ∀ i, i < n → (u i).natAbs ≤ 200 := fun i hi => by
      obtain ⟨j, hj, e⟩ := u3 i hi
      rw [e]
      exact hv j hj
    have huc : ∀ i, i < n → (u i * w i).natAbs ≤ 4000 := fun i hi => by
      rw [Int.natAbs_mul]
      have := Nat.mul_le_mul (hu i hi) (hw5 i hi)
      omega
    obtain ⟨y, Y, q1, q2⟩ := rising_ok (v := u) (w := w) h1 h4 (fun i hi => by have := hu i hi; omega) hpos hws huc
    have ey : vT n y = vT n fun i => (u i : Rat) := vT_congr (q2.uni h1 h4 hpos hws huc (Rise.same u2))
    rw [ey] at q1
    simp [r1, ed, alike_vT (n := n) (x := x) (by omega), u1]
    have q1' : F_rising [.tuple (vecF n fun i => .int (u i)), iT n w] = some (vT n fun i => (u i : Rat)) := q1
    simp [q1', u1, lst_its (show n ≤ 1000000 by omega)]
    rw [lcGo_vec (φ := fun i => frD (u i : Rat))]
    · obtain ⟨m, w5, e5, hw5', hm⟩ := number_ok (z := 9) hw4 (by decide)
      have e5' : F_law_number [.row, .s (.int 9)] w4 = some (.int m, w5) := e5
      simp [show (PyData.tuple (vecF n fun i => frD (u i : Rat)) : D) = vT n fun i => (u i : Rat) from rfl, ne_vT, e5', show dItems (iT n v) = some (vecF n fun i => .int (v i)) from rfl, show dItems (iT n w) = some (vecF n fun i => .int (w i)) from rfl, lst_its (show n ≤ 1000000 by omega)]
      rw [lcGo_vec (φ := fun i => .int (v i + m))]
      · simp [lst_its (show n ≤ 1000000 by omega), show dItems (iT n w) = some (vecF n fun i => .int (w i)) from rfl]
        rw [lcGo_vec (φ := fun i => .int (3 * w i))]
        · have hm1 : ∀ i, i < n → (v i + m).natAbs ≤ 209 := fun i hi => by have := hv i hi; omega
          have hw3 : ∀ i, i < n → (3 * w i).natAbs ≤ 15 := fun i hi => by have := hw5 i hi; omega
          have hmc : ∀ i, i < n → ((v i + m) * (3 * w i)).natAbs ≤ 4000 := fun i hi => by
            rw [Int.natAbs_mul]
            have := Nat.mul_le_mul (hm1 i hi) (hw3 i hi)
            omega
          have hw3p : ∀ i, i < n → 0 < 3 * w i := fun i hi => by have := hpos i hi; omega
          have hw3s : ∀ i, i < n → (3 * w i).natAbs ≤ 1000 := fun i hi => by have := hw3 i hi; omega
          obtain ⟨y2, Y2, t1, t2⟩ := rising_ok (v := fun i => v i + m) (w := fun i => 3 * w i) h1 h4 (fun i hi => by have := hm1 i hi; omega) hw3p hw3s hmc
          have ey2 : vT n y2 = vT n fun i => x i + (m : Rat) := vT_congr (t2.uni h1 h4 hw3p hw3s hmc (r2.moved (m := m) (c := 3) (by decide)))
          rw [ey2] at t1
          have t1' : F_rising [.tuple (vecF n fun i => .int (v i + m)), .tuple (vecF n fun i => .int (3 * w i))] = some (vT n fun i => x i + (m : Rat)) := t1
          simp [t1', lst_its (show n ≤ 1000000 by omega)]
          rw [lcGo_vec (φ := fun i => frD (x i + (m : Rat)))]
          · simp [show (PyData.tuple (vecF n fun i => frD (x i + (m : Rat))) : D) = vT n fun i => x i + (m : Rat) from rfl, eq_vT]
            exact okT
          · intro i hi
            refine ⟨⟨w5, [.no, .row, .s (.int (n : Nat)), .s (.int (z : Nat)), .s (iT n v), .s (iT n w), .o (vecF n fun i => frD (dueN n v w i)), s7, s8, s9, s10, s11, s12, s13, .s (vT n fun i => (u i : Rat)), .s (.int m), .s (vT n fun i => x i + (m : Rat)), .no, .s (frD (dueN n v w i))]⟩, ?_, rfl, ?_⟩
            · simp [Ev.wipe, wipeS]
            · rw [← r2.due hpos hi]
              have zx : Sz 12 (x i) := by
                rw [r2.due hpos hi]
                exact maxN_sz fun lo hlo => minN_sz fun k hk => meanN_sz hpos hw5 hv h4 (by omega) (by omega)
              have e6 := F_law_plus_eq zx (sz10 (i := m) (by omega)) (by decide)
              rw [frD_int] at e6
              simp [e6]
        · intro i hi
          refine ⟨⟨w5, [.no, .row, .s (.int (n : Nat)), .s (.int (z : Nat)), .s (iT n v), .s (iT n w), .o (vecF n fun i => frD (dueN n v w i)), s7, s8, s9, s10, s11, s12, s13, .s (vT n fun i => (u i : Rat)), .s (.int m), .no, .no, .s (.int (w i))]⟩, ?_, rfl, ?_⟩
          · simp [Ev.wipe, wipeS]
          · have f3 := mulOk_s (i := 3) (j := w i) (by decide) (hws i hi)
            simp [f3]
      · intro i hi
        refine ⟨⟨w5, [.no, .row, .s (.int (n : Nat)), .s (.int (z : Nat)), .s (iT n v), .s (iT n w), .o (vecF n fun i => frD (dueN n v w i)), s7, s8, s9, s10, s11, s12, s13, .s (vT n fun i => (u i : Rat)), .s (.int m), .no, .no, .s (.int (v i))]⟩, ?_, rfl, ?_⟩
        · simp [Ev.wipe, wipeS]
        · simp
    · intro i hi
      refine ⟨⟨w4, [.no, .row, .s (.int (n : Nat)), .s (.int (z : Nat)), .s (iT n v), .s (iT n w), .o (vecF n fun i => frD (dueN n v w i)), s7, s8, s9, s10, s11, s12, s13, .s (vT n fun i => (u i : Rat)), .no, .no, .no, .s (.int (u i))]⟩, ?_, rfl, ?_⟩
      · simp [Ev.wipe, wipeS]
      · simp
        rfl
end PU


namespace WK
open PG
open PySem PySem.Spec PyProof.Rows L2 DL
def top (i : Nat) : Stmt := PySem.Challenge.pw_squarepaths_k05_whole_rising_rows.main.body.getD i (.Pass ⟨0, 0, 0, 0⟩)
abbrev s_Holder_init : Stmt := (inClass (top 31) 0)
abbrev N_Holder_init : List Str := ["self", "task", "share"]
theorem sc_Holder_init : FnScope N_Holder_init ["self", "task", "share"] (defScope s_Holder_init) := ⟨rfl, rfl, rfl, by decide +kernel, rfl, by decide +kernel, by decide +kernel⟩
abbrev s_Holder_brought : Stmt := (inClass (top 31) 1)
abbrev N_Holder_brought : List Str := ["self", "row", "numbers", "weight", "move", "steps", "out", "rise", "full", "length"]
theorem sc_Holder_brought : FnScope N_Holder_brought ["self", "row"] (defScope s_Holder_brought) := ⟨rfl, rfl, rfl, by decide +kernel, rfl, by decide +kernel, by decide +kernel⟩
abbrev s_Holder_done : Stmt := (inClass (top 31) 2)
abbrev N_Holder_done : List Str := ["self", "gaps", "some", "barred", "at", "gap"]
theorem sc_Holder_done : FnScope N_Holder_done ["self"] (defScope s_Holder_done) := ⟨rfl, rfl, rfl, by decide +kernel, rfl, by decide +kernel, by decide +kernel⟩
abbrev s_is_int : Stmt := (top 5)
abbrev N_is_int : List Str := ["value"]
theorem sc_is_int : FnScope N_is_int ["value"] (defScope s_is_int) := ⟨rfl, rfl, rfl, by decide +kernel, rfl, by decide +kernel, by decide +kernel⟩
abbrev s_common : Stmt := (top 6)
abbrev N_common : List Str := ["one", "other"]
theorem sc_common : FnScope N_common ["one", "other"] (defScope s_common) := ⟨rfl, rfl, rfl, by decide +kernel, rfl, by decide +kernel, by decide +kernel⟩
abbrev s_fraction : Stmt := (top 7)
abbrev N_fraction : List Str := ["top", "low", "part"]
theorem sc_fraction : FnScope N_fraction ["top", "low"] (defScope s_fraction) := ⟨rfl, rfl, rfl, by decide +kernel, rfl, by decide +kernel, by decide +kernel⟩
abbrev s_plus : Stmt := (top 8)
abbrev N_plus : List Str := ["one", "other"]
theorem sc_plus : FnScope N_plus ["one", "other"] (defScope s_plus) := ⟨rfl, rfl, rfl, by decide +kernel, rfl, by decide +kernel, by decide +kernel⟩
abbrev s_less : Stmt := (top 9)
abbrev N_less : List Str := ["one", "other"]
theorem sc_less : FnScope N_less ["one", "other"] (defScope s_less) := ⟨rfl, rfl, rfl, by decide +kernel, rfl, by decide +kernel, by decide +kernel⟩
abbrev s_times : Stmt := (top 10)
abbrev N_times : List Str := ["one", "other"]
theorem sc_times : FnScope N_times ["one", "other"] (defScope s_times) := ⟨rfl, rfl, rfl, by decide +kernel, rfl, by decide +kernel, by decide +kernel⟩
abbrev s_over : Stmt := (top 11)
abbrev N_over : List Str := ["one", "other"]
theorem sc_over : FnScope N_over ["one", "other"] (defScope s_over) := ⟨rfl, rfl, rfl, by decide +kernel, rfl, by decide +kernel, by decide +kernel⟩
abbrev s_is_below : Stmt := (top 12)
abbrev N_is_below : List Str := ["one", "other"]
theorem sc_is_below : FnScope N_is_below ["one", "other"] (defScope s_is_below) := ⟨rfl, rfl, rfl, by decide +kernel, rfl, by decide +kernel, by decide +kernel⟩
abbrev s_added : Stmt := (top 13)
abbrev N_added : List Str := ["one", "other", "many", "a", "b"]
theorem sc_added : FnScope N_added ["one", "other", "many"] (defScope s_added) := ⟨rfl, rfl, rfl, by decide +kernel, rfl, by decide +kernel, by decide +kernel⟩
abbrev s_inner : Stmt := (top 14)
abbrev N_inner : List Str := ["numbers", "row", "found", "one", "other"]
theorem sc_inner : FnScope N_inner ["numbers", "row"] (defScope s_inner) := ⟨rfl, rfl, rfl, by decide +kernel, rfl, by decide +kernel, by decide +kernel⟩
abbrev s_solved : Stmt := (top 15)
abbrev N_solved : List Str := ["rows", "sides", "many", "table", "at", "some", "lead", "spot", "much", "row", "side", "one", "line"]
theorem sc_solved : FnScope N_solved ["rows", "sides"] (defScope s_solved) := ⟨rfl, rfl, rfl, by decide +kernel, rfl, by decide +kernel, by decide +kernel⟩
abbrev s_is_small : Stmt := (top 19)
abbrev N_is_small : List Str := ["value"]
theorem sc_is_small : FnScope N_is_small ["value"] (defScope s_is_small) := ⟨rfl, rfl, rfl, by decide +kernel, rfl, by decide +kernel, by decide +kernel⟩
abbrev s_is_row : Stmt := (top 20)
abbrev N_is_row : List Str := ["value", "wide", "one"]
theorem sc_is_row : FnScope N_is_row ["value", "wide"] (defScope s_is_row) := ⟨rfl, rfl, rfl, by decide +kernel, rfl, by decide +kernel, by decide +kernel⟩
abbrev s_costs_at : Stmt := (top 21)
abbrev N_costs_at : List Str := ["task", "share", "cost", "more"]
theorem sc_costs_at : FnScope N_costs_at ["task", "share"] (defScope s_costs_at) := ⟨rfl, rfl, rfl, by decide +kernel, rfl, by decide +kernel, by decide +kernel⟩
abbrev s_rights_at : Stmt := (top 22)
abbrev N_rights_at : List Str := ["task", "share", "row"]
theorem sc_rights_at : FnScope N_rights_at ["task", "share"] (defScope s_rights_at) := ⟨rfl, rfl, rfl, by decide +kernel, rfl, by decide +kernel, by decide +kernel⟩
abbrev s_gaps_of : Stmt := (top 23)
abbrev N_gaps_of : List Str := ["task", "share", "plan", "row", "right"]
theorem sc_gaps_of : FnScope N_gaps_of ["task", "share", "plan"] (defScope s_gaps_of) := ⟨rfl, rfl, rfl, by decide +kernel, rfl, by decide +kernel, by decide +kernel⟩
abbrev s_held_table : Stmt := (top 25)
abbrev N_held_table : List Str := ["task", "lot", "wide", "rows", "at", "spot", "one"]
theorem sc_held_table : FnScope N_held_table ["task", "lot"] (defScope s_held_table) := ⟨rfl, rfl, rfl, by decide +kernel, rfl, by decide +kernel, by decide +kernel⟩
abbrev s_negative : Stmt := (top 26)
abbrev N_negative : List Str := ["row", "top", "low"]
theorem sc_negative : FnScope N_negative ["row"] (defScope s_negative) := ⟨rfl, rfl, rfl, by decide +kernel, rfl, by decide +kernel, by decide +kernel⟩
abbrev s_held : Stmt := (top 27)
abbrev N_held : List Str := ["task", "share", "lot", "rights", "side", "told", "spot"]
theorem sc_held : FnScope N_held ["task", "share", "lot"] (defScope s_held) := ⟨rfl, rfl, rfl, by decide +kernel, rfl, by decide +kernel, by decide +kernel⟩
abbrev s_spread : Stmt := (top 28)
abbrev N_spread : List Str := ["task", "lot", "weights", "found", "spot", "weight"]
theorem sc_spread : FnScope N_spread ["task", "lot", "weights"] (defScope s_spread) := ⟨rfl, rfl, rfl, by decide +kernel, rfl, by decide +kernel, by decide +kernel⟩
abbrev s_turn_of : Stmt := (top 29)
abbrev N_turn_of : List Str := ["task", "lot", "numbers", "wide", "side", "told", "one"]
theorem sc_turn_of : FnScope N_turn_of ["task", "lot", "numbers"] (defScope s_turn_of) := ⟨rfl, rfl, rfl, by decide +kernel, rfl, by decide +kernel, by decide +kernel⟩
abbrev s_first_out : Stmt := (top 30)
abbrev N_first_out : List Str := ["weights", "steps", "best", "at", "weight", "step", "length"]
theorem sc_first_out : FnScope N_first_out ["weights", "steps"] (defScope s_first_out) := ⟨rfl, rfl, rfl, by decide +kernel, rfl, by decide +kernel, by decide +kernel⟩
abbrev s_by_holding : Stmt := (top 32)
abbrev N_by_holding : List Str := ["task", "share", "holder", "barred"]
theorem sc_by_holding : FnScope N_by_holding ["task", "share"] (defScope s_by_holding) := ⟨rfl, rfl, rfl, by decide +kernel, rfl, by decide +kernel, by decide +kernel⟩
abbrev s_rising : Stmt := (top 34)
abbrev N_rising : List Str := ["values", "weights", "wide", "squares", "rows", "at", "costs", "one", "to", "other"]
theorem sc_rising : FnScope N_rising ["values", "weights"] (defScope s_rising) := ⟨rfl, rfl, rfl, by decide +kernel, rfl, by decide +kernel, by decide +kernel⟩
abbrev s_law_taken : Stmt := (top 36)
abbrev N_law_taken : List Str := ["_law_row", "_law_many", "_law_found", "_law_cell"]
theorem sc_law_taken : FnScope N_law_taken ["_law_row", "_law_many"] (defScope s_law_taken) := ⟨rfl, rfl, rfl, by decide +kernel, rfl, by decide +kernel, by decide +kernel⟩
abbrev s_law_pick : Stmt := (top 37)
abbrev N_law_pick : List Str := ["_law_row", "_law_things"]
theorem sc_law_pick : FnScope N_law_pick ["_law_row", "_law_things"] (defScope s_law_pick) := ⟨rfl, rfl, rfl, by decide +kernel, rfl, by decide +kernel, by decide +kernel⟩
abbrev s_law_alike : Stmt := (top 38)
abbrev N_law_alike : List Str := ["_law_found", "_law_due", "_law_k"]
theorem sc_law_alike : FnScope N_law_alike ["_law_found", "_law_due"] (defScope s_law_alike) := ⟨rfl, rfl, rfl, by decide +kernel, rfl, by decide +kernel, by decide +kernel⟩
abbrev s_law_fr : Stmt := (top 39)
abbrev N_law_fr : List Str := ["_law_top", "_law_low", "_law_a", "_law_b"]
theorem sc_law_fr : FnScope N_law_fr ["_law_top", "_law_low"] (defScope s_law_fr) := ⟨rfl, rfl, rfl, by decide +kernel, rfl, by decide +kernel, by decide +kernel⟩
abbrev s_law_plus : Stmt := (top 40)
abbrev N_law_plus : List Str := ["_law_one", "_law_other"]
theorem sc_law_plus : FnScope N_law_plus ["_law_one", "_law_other"] (defScope s_law_plus) := ⟨rfl, rfl, rfl, by decide +kernel, rfl, by decide +kernel, by decide +kernel⟩
abbrev s_law_below : Stmt := (top 41)
abbrev N_law_below : List Str := ["_law_one", "_law_other"]
theorem sc_law_below : FnScope N_law_below ["_law_one", "_law_other"] (defScope s_law_below) := ⟨rfl, rfl, rfl, by decide +kernel, rfl, by decide +kernel, by decide +kernel⟩
abbrev s_law_number : Stmt := (top 42)
abbrev N_law_number : List Str := ["_law_row", "_law_size"]
theorem sc_law_number : FnScope N_law_number ["_law_row", "_law_size"] (defScope s_law_number) := ⟨rfl, rfl, rfl, by decide +kernel, rfl, by decide +kernel, by decide +kernel⟩
abbrev s_law : Stmt := (top 43)
abbrev N_law : List Str := ["_law_script", "_law_row", "_law_many", "_law_size", "_law_values", "_law_weights", "_law_due", "_law_at", "_law_best", "_law_low", "_law_least", "_law_high", "_law_top", "_law_mean", "_law_same", "_law_more", "_law_moved", "_law_k", "_law_one"]
theorem sc_law : FnScope N_law ["_law_script"] (defScope s_law) := ⟨rfl, rfl, rfl, by decide +kernel, rfl, by decide +kernel, by decide +kernel⟩
structure Top (K : PySem.W.Frag) (mg : Str → Option Value) : Prop where
  f_abs : mg "abs" = none
  f_all : mg "all" = none
  f_bool : mg "bool" = none
  f_enumerate : mg "enumerate" = none
  f_int : mg "int" = none
  f_isinstance : mg "isinstance" = none
  f_len : mg "len" = none
  f_list : mg "list" = none
  f_max : mg "max" = none
  f_range : mg "range" = none
  f_sorted : mg "sorted" = none
  f_str : mg "str" = none
  f_sum : mg "sum" = none
  f_tuple : mg "tuple" = none
  f_zip : mg "zip" = none
  g_Holder : mg "Holder" = some (.ref (He.ga K "Holder"))
  c_Holder : Cls K (He.ga K "Holder")
  k_Holder : Mk K (He.ga K "Holder") (He.ma K (He.ga K "Holder") "__init__")
  n_Holder_task : NoAttr K (He.ga K "Holder") "task"
  n_Holder_share : NoAttr K (He.ga K "Holder") "share"
  n_Holder_lot : NoAttr K (He.ga K "Holder") "lot"
  n_Holder_weights : NoAttr K (He.ga K "Holder") "weights"
  n_Holder_plan : NoAttr K (He.ga K "Holder") "plan"
  d_Holder_init : ∃ fd, FunD K "__init__" "Holder.__init__" (defArgs (inClass (top 31) 0)) (defBody (inClass (top 31) 0)) (defScope (inClass (top 31) 0)) [] [] (He.ma K (He.ga K "Holder") "__init__") fd
  d_Holder_brought : ∃ fd, FunD K "brought" "Holder.brought" (defArgs (inClass (top 31) 1)) (defBody (inClass (top 31) 1)) (defScope (inClass (top 31) 1)) [] [] (He.ma K (He.ga K "Holder") "brought") fd
  m_Holder_brought : Meth K (He.ga K "Holder") "brought" (He.ma K (He.ga K "Holder") "brought")
  d_Holder_done : ∃ fd, FunD K "done" "Holder.done" (defArgs (inClass (top 31) 2)) (defBody (inClass (top 31) 2)) (defScope (inClass (top 31) 2)) [] [] (He.ma K (He.ga K "Holder") "done") fd
  m_Holder_done : Meth K (He.ga K "Holder") "done" (He.ma K (He.ga K "Holder") "done")
  d_is_int : ∃ fd, FunD K "is_int" "is_int" (defArgs (top 5)) (defBody (top 5)) (defScope (top 5)) [] [] (He.ga K "is_int") fd
  g_is_int : mg "is_int" = some (.ref (He.ga K "is_int"))
  d_common : ∃ fd, FunD K "common" "common" (defArgs (top 6)) (defBody (top 6)) (defScope (top 6)) [] [] (He.ga K "common") fd
  g_common : mg "common" = some (.ref (He.ga K "common"))
  d_fraction : ∃ fd, FunD K "fraction" "fraction" (defArgs (top 7)) (defBody (top 7)) (defScope (top 7)) [] [] (He.ga K "fraction") fd
  g_fraction : mg "fraction" = some (.ref (He.ga K "fraction"))
  d_plus : ∃ fd, FunD K "plus" "plus" (defArgs (top 8)) (defBody (top 8)) (defScope (top 8)) [] [] (He.ga K "plus") fd
  g_plus : mg "plus" = some (.ref (He.ga K "plus"))
  d_less : ∃ fd, FunD K "less" "less" (defArgs (top 9)) (defBody (top 9)) (defScope (top 9)) [] [] (He.ga K "less") fd
  g_less : mg "less" = some (.ref (He.ga K "less"))
  d_times : ∃ fd, FunD K "times" "times" (defArgs (top 10)) (defBody (top 10)) (defScope (top 10)) [] [] (He.ga K "times") fd
  g_times : mg "times" = some (.ref (He.ga K "times"))
  d_over : ∃ fd, FunD K "over" "over" (defArgs (top 11)) (defBody (top 11)) (defScope (top 11)) [] [] (He.ga K "over") fd
  g_over : mg "over" = some (.ref (He.ga K "over"))
  d_is_below : ∃ fd, FunD K "is_below" "is_below" (defArgs (top 12)) (defBody (top 12)) (defScope (top 12)) [] [] (He.ga K "is_below") fd
  g_is_below : mg "is_below" = some (.ref (He.ga K "is_below"))
  d_added : ∃ fd, FunD K "added" "added" (defArgs (top 13)) (defBody (top 13)) (defScope (top 13)) [.ref (He.dflAt ("added", none) 0 K)] [] (He.ga K "added") fd
  g_added : mg "added" = some (.ref (He.ga K "added"))
  dfl_added : ∀ H, RpAll K H [.ref (He.dflAt ("added", none) 0 K)] [(.tuple [.int 1, .int 1])]
  d_inner : ∃ fd, FunD K "inner" "inner" (defArgs (top 14)) (defBody (top 14)) (defScope (top 14)) [] [] (He.ga K "inner") fd
  g_inner : mg "inner" = some (.ref (He.ga K "inner"))
  d_solved : ∃ fd, FunD K "solved" "solved" (defArgs (top 15)) (defBody (top 15)) (defScope (top 15)) [] [] (He.ga K "solved") fd
  g_solved : mg "solved" = some (.ref (He.ga K "solved"))
  d_is_small : ∃ fd, FunD K "is_small" "is_small" (defArgs (top 19)) (defBody (top 19)) (defScope (top 19)) [] [] (He.ga K "is_small") fd
  g_is_small : mg "is_small" = some (.ref (He.ga K "is_small"))
  d_is_row : ∃ fd, FunD K "is_row" "is_row" (defArgs (top 20)) (defBody (top 20)) (defScope (top 20)) [] [] (He.ga K "is_row") fd
  g_is_row : mg "is_row" = some (.ref (He.ga K "is_row"))
  d_costs_at : ∃ fd, FunD K "costs_at" "costs_at" (defArgs (top 21)) (defBody (top 21)) (defScope (top 21)) [] [] (He.ga K "costs_at") fd
  g_costs_at : mg "costs_at" = some (.ref (He.ga K "costs_at"))
  d_rights_at : ∃ fd, FunD K "rights_at" "rights_at" (defArgs (top 22)) (defBody (top 22)) (defScope (top 22)) [] [] (He.ga K "rights_at") fd
  g_rights_at : mg "rights_at" = some (.ref (He.ga K "rights_at"))
  d_gaps_of : ∃ fd, FunD K "gaps_of" "gaps_of" (defArgs (top 23)) (defBody (top 23)) (defScope (top 23)) [] [] (He.ga K "gaps_of") fd
  g_gaps_of : mg "gaps_of" = some (.ref (He.ga K "gaps_of"))
  d_held_table : ∃ fd, FunD K "held_table" "held_table" (defArgs (top 25)) (defBody (top 25)) (defScope (top 25)) [] [] (He.ga K "held_table") fd
  g_held_table : mg "held_table" = some (.ref (He.ga K "held_table"))
  d_negative : ∃ fd, FunD K "negative" "negative" (defArgs (top 26)) (defBody (top 26)) (defScope (top 26)) [] [] (He.ga K "negative") fd
  g_negative : mg "negative" = some (.ref (He.ga K "negative"))
  d_held : ∃ fd, FunD K "held" "held" (defArgs (top 27)) (defBody (top 27)) (defScope (top 27)) [] [] (He.ga K "held") fd
  g_held : mg "held" = some (.ref (He.ga K "held"))
  d_spread : ∃ fd, FunD K "spread" "spread" (defArgs (top 28)) (defBody (top 28)) (defScope (top 28)) [] [] (He.ga K "spread") fd
  g_spread : mg "spread" = some (.ref (He.ga K "spread"))
  d_turn_of : ∃ fd, FunD K "turn_of" "turn_of" (defArgs (top 29)) (defBody (top 29)) (defScope (top 29)) [] [] (He.ga K "turn_of") fd
  g_turn_of : mg "turn_of" = some (.ref (He.ga K "turn_of"))
  d_first_out : ∃ fd, FunD K "first_out" "first_out" (defArgs (top 30)) (defBody (top 30)) (defScope (top 30)) [] [] (He.ga K "first_out") fd
  g_first_out : mg "first_out" = some (.ref (He.ga K "first_out"))
  d_by_holding : ∃ fd, FunD K "by_holding" "by_holding" (defArgs (top 32)) (defBody (top 32)) (defScope (top 32)) [] [] (He.ga K "by_holding") fd
  g_by_holding : mg "by_holding" = some (.ref (He.ga K "by_holding"))
  d_rising : ∃ fd, FunD K "rising" "rising" (defArgs (top 34)) (defBody (top 34)) (defScope (top 34)) [] [] (He.ga K "rising") fd
  g_rising : mg "rising" = some (.ref (He.ga K "rising"))
  d_law_taken : ∃ fd, FunD K "_law_taken" "_law_taken" (defArgs (top 36)) (defBody (top 36)) (defScope (top 36)) [] [] (He.ga K "_law_taken") fd
  g_law_taken : mg "_law_taken" = some (.ref (He.ga K "_law_taken"))
  d_law_pick : ∃ fd, FunD K "_law_pick" "_law_pick" (defArgs (top 37)) (defBody (top 37)) (defScope (top 37)) [] [] (He.ga K "_law_pick") fd
  g_law_pick : mg "_law_pick" = some (.ref (He.ga K "_law_pick"))
  d_law_alike : ∃ fd, FunD K "_law_alike" "_law_alike" (defArgs (top 38)) (defBody (top 38)) (defScope (top 38)) [] [] (He.ga K "_law_alike") fd
  g_law_alike : mg "_law_alike" = some (.ref (He.ga K "_law_alike"))
  d_law_fr : ∃ fd, FunD K "_law_fr" "_law_fr" (defArgs (top 39)) (defBody (top 39)) (defScope (top 39)) [] [] (He.ga K "_law_fr") fd
  g_law_fr : mg "_law_fr" = some (.ref (He.ga K "_law_fr"))
  d_law_plus : ∃ fd, FunD K "_law_plus" "_law_plus" (defArgs (top 40)) (defBody (top 40)) (defScope (top 40)) [] [] (He.ga K "_law_plus") fd
  g_law_plus : mg "_law_plus" = some (.ref (He.ga K "_law_plus"))
  d_law_below : ∃ fd, FunD K "_law_below" "_law_below" (defArgs (top 41)) (defBody (top 41)) (defScope (top 41)) [] [] (He.ga K "_law_below") fd
  g_law_below : mg "_law_below" = some (.ref (He.ga K "_law_below"))
  d_law_number : ∃ fd, FunD K "_law_number" "_law_number" (defArgs (top 42)) (defBody (top 42)) (defScope (top 42)) [] [] (He.ga K "_law_number") fd
  g_law_number : mg "_law_number" = some (.ref (He.ga K "_law_number"))
  d_law : ∃ fd, FunD K "law" "law" (defArgs (top 43)) (defBody (top 43)) (defScope (top 43)) [] [] (He.ga K "law") fd
  g_law : mg "law" = some (.ref (He.ga K "law"))
  c_NOUGHT : Glb K mg "NOUGHT" (.ref (He.ga K "NOUGHT")) (.tuple [.int 0, .int 1])
  c_MOST_WIDE : Glb K mg "MOST_WIDE" (.int 4) (.int 4)
  c_MOST_GIVEN : Glb K mg "MOST_GIVEN" (.int 1000) (.int 1000)
end WK


namespace WK
open PySem PySem.Spec PyProof.Rows L2 DL PG
variable {P : Program} {w : World} {K : PySem.W.Frag} {mg : Str → Option Value} {base : Heap}
theorem ok_common (T : Top K mg)  : Has P w K mg base "common" 1 [] (spP K F_common) := by
  obtain ⟨fd, F⟩ := T.d_common
  have ok := def_okG (P := P) (w := w) (mg := mg) (base := base) (k := 0) (N := N_common) (ps := ["one", "other"]) (g := g_common) F sc_common (fun cdv A outer s H E hr rc => by
    have hu := hr.units
    exact ⟨_, (dss_cons (ds_par (i := 0) (j := 1) rfl sc_common.nd (DE.v (de_callB call_abs c_abs (db_var 0) T.f_abs PyProof.Rows.boot_abs)) (DE.v (de_callB call_abs c_abs (db_var 1) T.f_abs PyProof.Rows.boot_abs)) (by decide))
    (dss_cons (ds_while fuel_common PassesOwn.never (dt_cmp (kop_neD K hu) s_ne (db_var 1) (DE.toB (m := false) de_int)) (dss_one (ds_par (i := 0) (j := 1) rfl sc_common.nd (DE.v (de_var 1)) (DE.v (de_op op_modN s_mod (db_var 0) (db_var 1))) (by decide))))
    (dss_one (ds_ret (de_var 0)))))⟩)
  have b : Binds K fd ["one", "other"] [] := F.bindsN fun _ _ _ _ _ _ us hl => match us, hl with | [_, _], _ => rfl
  exact ⟨_, fd, _, _, okP_of ok, T.g_common, F.kp, b, .nil⟩
end WK


namespace WK
open PySem PySem.Spec PyProof.Rows L2 DL PG
variable {P : Program} {w : World} {K : PySem.W.Frag} {mg : Str → Option Value} {base : Heap}
theorem ok_fraction (T : Top K mg) (hS : base.NoSeer) (ht : P.given.tree = none) (h_common : Has P w K mg base "common" 1 [] (spP K F_common)) : Has P w K mg base "fraction" 34 [] (spP K F_fraction) := by
  obtain ⟨fd, F⟩ := T.d_fraction
  have ok := def_okG (P := P) (w := w) (mg := mg) (base := base) (k := 33) (N := N_fraction) (ps := ["top", "low"]) (g := g_fraction) F sc_fraction (fun cdv A outer s H E hr rc => by
    have hpy : PylongAt (cxOf CX0 P w K mg base N_fraction "fraction" (defScope s_fraction) (He.ga K "fraction") cdv A outer s H E).nox := pylong_of hS ht rfl rfl rfl rfl rfl hr (by decide); have hu := hr.units
    exact ⟨_, (dss_cons (ds_set (i := 2) sc_fraction.nd (kde_callP K (k := 1) h_common (hr.mono (by decide)) (fun _ => RpAll.nil) (da_cons (de_var 0) (da_cons (de_var 1) da_nil))))
    (dss_cons (ds_par (i := 0) (j := 1) rfl sc_fraction.nd (DE.v (de_op (op_divP hpy) s_div (db_var 0) (db_var 2))) (DE.v (de_op (op_divP hpy) s_div (db_var 1) (db_var 2))) (by decide))
    (dss_one (ds_ret (de_if (dt_cmp op_lt s_lt (db_var 1) (DE.toB (m := false) de_int)) (de_tup (da_cons (de_neg (db_var 0)) (da_cons (de_neg (db_var 1)) da_nil))) (de_tup (da_cons (de_var 0) (da_cons (de_var 1) da_nil))))))))⟩)
  have b : Binds K fd ["top", "low"] [] := F.bindsN fun _ _ _ _ _ _ us hl => match us, hl with | [_, _], _ => rfl
  exact ⟨_, fd, _, _, okP_of ok, T.g_fraction, F.kp, b, .nil⟩
end WK


namespace WK
open PySem PySem.Spec PyProof.Rows L2 DL PG
variable {P : Program} {w : World} {K : PySem.W.Frag} {mg : Str → Option Value} {base : Heap}
theorem ok_plus (T : Top K mg) (h_fraction : Has P w K mg base "fraction" 34 [] (spP K F_fraction)) : Has P w K mg base "plus" 35 [] (spP K F_plus) := by
  obtain ⟨fd, F⟩ := T.d_plus
  have ok := def_okG (P := P) (w := w) (mg := mg) (base := base) (k := 34) (N := N_plus) (ps := ["one", "other"]) (g := g_plus) F sc_plus (fun cdv A outer s H E hr rc => by
    have hu := hr.units
    exact ⟨_, (dss_one (ds_ret (kde_callP K (k := 34) h_fraction (hr.mono (by decide)) (fun _ => RpAll.nil) (da_cons (de_op op_add s_add (DE.toB (m := false) (de_op op_mulM s_mul (DE.toB (m := false) (kde_ix K (db_var 0) (DE.toB (m := false) de_int))) (DE.toB (m := false) (kde_ix K (db_var 1) (DE.toB (m := false) de_int))))) (DE.toB (m := false) (de_op op_mulM s_mul (DE.toB (m := false) (kde_ix K (db_var 1) (DE.toB (m := false) de_int))) (DE.toB (m := false) (kde_ix K (db_var 0) (DE.toB (m := false) de_int)))))) (da_cons (de_op op_mulM s_mul (DE.toB (m := false) (kde_ix K (db_var 0) (DE.toB (m := false) de_int))) (DE.toB (m := false) (kde_ix K (db_var 1) (DE.toB (m := false) de_int)))) da_nil)))))⟩)
  have b : Binds K fd ["one", "other"] [] := F.bindsN fun _ _ _ _ _ _ us hl => match us, hl with | [_, _], _ => rfl
  exact ⟨_, fd, _, _, okP_of ok, T.g_plus, F.kp, b, .nil⟩
end WK


namespace WK
open PySem PySem.Spec PyProof.Rows L2 DL PG
variable {P : Program} {w : World} {K : PySem.W.Frag} {mg : Str → Option Value} {base : Heap}
theorem ok_times (T : Top K mg) (h_fraction : Has P w K mg base "fraction" 34 [] (spP K F_fraction)) : Has P w K mg base "times" 35 [] (spP K F_times) := by
  obtain ⟨fd, F⟩ := T.d_times
  have ok := def_okG (P := P) (w := w) (mg := mg) (base := base) (k := 34) (N := N_times) (ps := ["one", "other"]) (g := g_times) F sc_times (fun cdv A outer s H E hr rc => by
    have hu := hr.units
    exact ⟨_, (dss_one (ds_ret (kde_callP K (k := 34) h_fraction (hr.mono (by decide)) (fun _ => RpAll.nil) (da_cons (de_op op_mulM s_mul (DE.toB (m := false) (kde_ix K (db_var 0) (DE.toB (m := false) de_int))) (DE.toB (m := false) (kde_ix K (db_var 1) (DE.toB (m := false) de_int)))) (da_cons (de_op op_mulM s_mul (DE.toB (m := false) (kde_ix K (db_var 0) (DE.toB (m := false) de_int))) (DE.toB (m := false) (kde_ix K (db_var 1) (DE.toB (m := false) de_int)))) da_nil)))))⟩)
  have b : Binds K fd ["one", "other"] [] := F.bindsN fun _ _ _ _ _ _ us hl => match us, hl with | [_, _], _ => rfl
  exact ⟨_, fd, _, _, okP_of ok, T.g_times, F.kp, b, .nil⟩
end WK


namespace WK
open PySem PySem.Spec PyProof.Rows L2 DL PG
variable {P : Program} {w : World} {K : PySem.W.Frag} {mg : Str → Option Value} {base : Heap}
theorem ok_rights_at (T : Top K mg) (h_plus : Has P w K mg base "plus" 35 [] (spP K F_plus)) (h_times : Has P w K mg base "times" 35 [] (spP K F_times)) : Has P w K mg base "rights_at" 36 [] (spP K F_rights_at) := by
  obtain ⟨fd, F⟩ := T.d_rights_at
  have ok := def_okG (P := P) (w := w) (mg := mg) (base := base) (k := 35) (N := N_rights_at) (ps := ["task", "share"]) (g := g_rights_at) F sc_rights_at (fun cdv A outer s H E hr rc => by
    have hu := hr.units
    exact ⟨_, (dss_one (ds_ret (DF.toE (df_lc (own := [("row", 2)]) rfl sc_rights_at.nd (kdi_seq K (DE.toB (m := false) (kde_ix K (db_var 0) (DE.toB (m := false) de_int)))) (blkOk_by (own := [("row", 2)]) (N := N_rights_at) (sc := defScope s_rights_at) (by decide +kernel)) (fun _ _ _ _ _ => (dg_name (i := 2) sc_rights_at.nd (by decide))) (fun _ _ _ _ _ => dts_nil) (fun _ _ _ _ _ => (kde_callP K (k := 35) h_plus (hr.mono (by decide)) (fun _ => RpAll.nil) (da_cons (de_tup (da_cons (kde_ix K (db_var 2) (DE.toB (m := false) de_int)) (da_cons de_int da_nil))) (da_cons (kde_callP K (k := 35) h_times (hr.mono (by decide)) (fun _ => RpAll.nil) (da_cons (de_tup (da_cons (kde_ix K (db_var 2) (DE.toB (m := false) de_int)) (da_cons de_int da_nil))) (da_cons (de_var 1) da_nil))) da_nil))))))))⟩)
  have b : Binds K fd ["task", "share"] [] := F.bindsN fun _ _ _ _ _ _ us hl => match us, hl with | [_, _], _ => rfl
  exact ⟨_, fd, _, _, okP_of ok, T.g_rights_at, F.kp, b, .nil⟩
end WK


namespace WK
open PySem PySem.Spec PyProof.Rows L2 DL PG
variable {P : Program} {w : World} {K : PySem.W.Frag} {mg : Str → Option Value} {base : Heap}
theorem ok_negative (T : Top K mg)  : Has P w K mg base "negative" 1 [] (spP K F_negative) := by
  obtain ⟨fd, F⟩ := T.d_negative
  have ok := def_okG (P := P) (w := w) (mg := mg) (base := base) (k := 0) (N := N_negative) (ps := ["row"]) (g := g_negative) F sc_negative (fun cdv A outer s H E hr rc => by
    have hu := hr.units
    exact ⟨_, (dss_one (ds_ret (DF.toE (df_lc (own := [("top", 1), ("low", 2)]) rfl sc_negative.nd (kdi_seq K (db_var 0)) (blkOk_by (own := [("top", 1), ("low", 2)]) (N := N_negative) (sc := defScope s_negative) (by decide +kernel)) (fun _ _ _ _ _ => (kdg_tup K rfl (dgs_cons (dg_name (i := 1) sc_negative.nd (by decide)) (dgs_cons (dg_name (i := 2) sc_negative.nd (by decide)) dgs_nil)))) (fun _ _ _ _ _ => dts_nil) (fun _ _ _ _ _ => (de_tup (da_cons (de_neg (db_var 1)) (da_cons (de_var 2) da_nil))))))))⟩)
  have b : Binds K fd ["row"] [] := F.bindsN fun _ _ _ _ _ _ us hl => match us, hl with | [_], _ => rfl
  exact ⟨_, fd, _, _, okP_of ok, T.g_negative, F.kp, b, .nil⟩
end WK


namespace WK
open PySem PySem.Spec PyProof.Rows L2 DL PG
variable {P : Program} {w : World} {K : PySem.W.Frag} {mg : Str → Option Value} {base : Heap}
theorem ok_costs_at (T : Top K mg) (h_plus : Has P w K mg base "plus" 35 [] (spP K F_plus)) (h_times : Has P w K mg base "times" 35 [] (spP K F_times)) : Has P w K mg base "costs_at" 36 [] (spP K F_costs_at) := by
  obtain ⟨fd, F⟩ := T.d_costs_at
  have ok := def_okG (P := P) (w := w) (mg := mg) (base := base) (k := 35) (N := N_costs_at) (ps := ["task", "share"]) (g := g_costs_at) F sc_costs_at (fun cdv A outer s H E hr rc => by
    have hu := hr.units
    exact ⟨_, (dss_one (ds_ret (DF.toE (df_lc (own := [("cost", 2), ("more", 3)]) rfl sc_costs_at.nd (kdi_zip2 K T.f_zip (DE.toB (m := false) (kde_ix K (db_var 0) (DE.toB (m := false) de_int))) (DE.toB (m := false) (kde_ix K (db_var 0) (DE.toB (m := false) de_int)))) (blkOk_by (own := [("cost", 2), ("more", 3)]) (N := N_costs_at) (sc := defScope s_costs_at) (by decide +kernel)) (fun _ _ _ _ _ => (kdg_tup K rfl (dgs_cons (dg_name (i := 2) sc_costs_at.nd (by decide)) (dgs_cons (dg_name (i := 3) sc_costs_at.nd (by decide)) dgs_nil)))) (fun _ _ _ _ _ => dts_nil) (fun _ _ _ _ _ => (kde_callP K (k := 35) h_plus (hr.mono (by decide)) (fun _ => RpAll.nil) (da_cons (de_tup (da_cons (de_var 2) (da_cons de_int da_nil))) (da_cons (kde_callP K (k := 35) h_times (hr.mono (by decide)) (fun _ => RpAll.nil) (da_cons (de_tup (da_cons (de_var 3) (da_cons de_int da_nil))) (da_cons (de_var 1) da_nil))) da_nil))))))))⟩)
  have b : Binds K fd ["task", "share"] [] := F.bindsN fun _ _ _ _ _ _ us hl => match us, hl with | [_, _], _ => rfl
  exact ⟨_, fd, _, _, okP_of ok, T.g_costs_at, F.kp, b, .nil⟩
end WK


namespace WK
open PySem PySem.Spec PyProof.Rows L2 DL PG
variable {P : Program} {w : World} {K : PySem.W.Frag} {mg : Str → Option Value} {base : Heap}
theorem ok_over (T : Top K mg) (h_fraction : Has P w K mg base "fraction" 34 [] (spP K F_fraction)) : Has P w K mg base "over" 35 [] (spP K F_over) := by
  obtain ⟨fd, F⟩ := T.d_over
  have ok := def_okG (P := P) (w := w) (mg := mg) (base := base) (k := 34) (N := N_over) (ps := ["one", "other"]) (g := g_over) F sc_over (fun cdv A outer s H E hr rc => by
    have hu := hr.units
    exact ⟨_, (dss_one (ds_ret (kde_callP K (k := 34) h_fraction (hr.mono (by decide)) (fun _ => RpAll.nil) (da_cons (de_op op_mulM s_mul (DE.toB (m := false) (kde_ix K (db_var 0) (DE.toB (m := false) de_int))) (DE.toB (m := false) (kde_ix K (db_var 1) (DE.toB (m := false) de_int)))) (da_cons (de_op op_mulM s_mul (DE.toB (m := false) (kde_ix K (db_var 0) (DE.toB (m := false) de_int))) (DE.toB (m := false) (kde_ix K (db_var 1) (DE.toB (m := false) de_int)))) da_nil)))))⟩)
  have b : Binds K fd ["one", "other"] [] := F.bindsN fun _ _ _ _ _ _ us hl => match us, hl with | [_, _], _ => rfl
  exact ⟨_, fd, _, _, okP_of ok, T.g_over, F.kp, b, .nil⟩
end WK


namespace WK
open PySem PySem.Spec PyProof.Rows L2 DL PG
variable {P : Program} {w : World} {K : PySem.W.Frag} {mg : Str → Option Value} {base : Heap}
theorem ok0_added (T : Top K mg) (h_plus : Has P w K mg base "plus" 35 [] (spP K F_plus)) (h_times : Has P w K mg base "times" 35 [] (spP K F_times)) {fd : FuncData} (F : FunD K "added" "added" (defArgs (top 13)) (defBody (top 13)) (defScope (top 13)) [.ref (He.dflAt ("added", none) 0 K)] [] (He.ga K "added") fd) : FnOk P w K mg base CX0 36 (He.ga K "added") fd ["one", "other", "many"] (spP K F_added) := by
  have ok := def_okG (P := P) (w := w) (mg := mg) (base := base) (k := 35) (N := N_added) (ps := ["one", "other", "many"]) (g := g_added) F sc_added (fun cdv A outer s H E hr rc => by
    have hu := hr.units
    exact ⟨_, (dss_one (ds_ret (DF.toE (df_lc (own := [("a", 3), ("b", 4)]) rfl sc_added.nd (kdi_zip2 K T.f_zip (db_var 0) (db_var 1)) (blkOk_by (own := [("a", 3), ("b", 4)]) (N := N_added) (sc := defScope s_added) (by decide +kernel)) (fun _ _ _ _ _ => (kdg_tup K rfl (dgs_cons (dg_name (i := 3) sc_added.nd (by decide)) (dgs_cons (dg_name (i := 4) sc_added.nd (by decide)) dgs_nil)))) (fun _ _ _ _ _ => dts_nil) (fun _ _ _ _ _ => (kde_callP K (k := 35) h_plus (hr.mono (by decide)) (fun _ => RpAll.nil) (da_cons (de_var 3) (da_cons (kde_callP K (k := 35) h_times (hr.mono (by decide)) (fun _ => RpAll.nil) (da_cons (de_var 2) (da_cons (de_var 4) da_nil))) da_nil))))))))⟩)
  exact okP_of ok
theorem okN_added (T : Top K mg) (h_plus : Has P w K mg base "plus" 35 [] (spP K F_plus)) (h_times : Has P w K mg base "times" 35 [] (spP K F_times)) {fd : FuncData} (F : FunD K "added" "added" (defArgs (top 13)) (defBody (top 13)) (defScope (top 13)) [.ref (He.dflAt ("added", none) 0 K)] [] (He.ga K "added") fd) : FnOk P w K mg base CX0 36 (He.ga K "added") fd ["one", "other", "many"] (spGN K (runNew n_added 3 5)) :=
  def_okN (P := P) (w := w) (mg := mg) (base := base) (k := 35) (N := N_added) (ps := ["one", "other", "many"]) (g := n_added) F sc_added (fun cdv A outer s H E hr rc => by
    have hu := hr.units
    have d : DF (cxOf CX0 P w K mg base N_added "added" (defScope s_added) (He.ga K "added") cdv A outer s H E).nox rc (retE (defBody s_added)) _ n_added := (df_lc (own := [("a", 3), ("b", 4)]) rfl sc_added.nd (kdi_zip2 K T.f_zip (db_var 0) (db_var 1)) (blkOk_by (own := [("a", 3), ("b", 4)]) (N := N_added) (sc := defScope s_added) (by decide +kernel)) (fun _ _ _ _ _ => (kdg_tup K rfl (dgs_cons (dg_name (i := 3) sc_added.nd (by decide)) (dgs_cons (dg_name (i := 4) sc_added.nd (by decide)) dgs_nil)))) (fun _ _ _ _ _ => dts_nil) (fun _ _ _ _ _ => (kde_callP K (k := 35) h_plus (hr.mono (by decide)) (fun _ => RpAll.nil) (da_cons (de_var 3) (da_cons (kde_callP K (k := 35) h_times (hr.mono (by decide)) (fun _ => RpAll.nil) (da_cons (de_var 2) (da_cons (de_var 4) da_nil))) da_nil)))))
    exact ⟨_, pss_one (ps_ret d.pe), d.new⟩)
end WK


namespace WK
open PySem PySem.Spec PyProof.Rows L2 DL PG
variable {P : Program} {w : World} {K : PySem.W.Frag} {mg : Str → Option Value} {base : Heap}
theorem ok_solved (T : Top K mg) (h_over : Has P w K mg base "over" 35 [] (spP K F_over)) (h_added : Has P w K mg base "added" 36 [] (spP K F_added)) : Has P w K mg base "solved" 37 [] (spP K F_solved) := by
  obtain ⟨fd, F⟩ := T.d_solved
  have ok := def_okG (P := P) (w := w) (mg := mg) (base := base) (k := 36) (N := N_solved) (ps := ["rows", "sides"]) (g := g_solved) F sc_solved (fun cdv A outer s H E hr rc => by
    have hu := hr.units
    exact ⟨_, (dss_cons (ds_set (i := 2) sc_solved.nd (de_callB (kcall_len K) (kc_len K) (db_var 0) T.f_len PySem.boot_len))
    (dss_cons (ds_setO (i := 3) sc_solved.nd (df_lc (own := [("at", 4), ("row", 9)]) rfl sc_solved.nd (kdi_enum K T.f_enumerate (db_var 0)) (blkOk_by (own := [("at", 4), ("row", 9)]) (N := N_solved) (sc := defScope s_solved) (by decide +kernel)) (fun _ _ _ _ _ => (kdg_tup K rfl (dgs_cons (dg_name (i := 4) sc_solved.nd (by decide)) (dgs_cons (dg_name (i := 9) sc_solved.nd (by decide)) dgs_nil)))) (fun _ _ _ _ _ => dts_nil) (fun _ _ _ _ _ => (DF.toE (df_lst (kda_star K (db_var 9) (kda_star K (DE.toB (m := false) (DF.toE (df_lc (own := [("side", 10)]) rfl sc_solved.nd (kdi_seq K (db_var 1)) (blkOk_by (own := [("side", 10)]) rfl) (fun _ _ _ _ _ => (dg_name (i := 10) sc_solved.nd (by decide))) (fun _ _ _ _ _ => dts_nil) (fun _ _ _ _ _ => (kde_ix K (db_var 10) (db_var 4)))))) da_nil)))))))
    (dss_cons (ds_for (vs := [4]) PassesOwn.never rfl (di_range1 (m := true) T.f_range (de_var 2)) (dg_name (i := 4) sc_solved.nd (by decide)) (dss_cons (ds_setLc (own := [("spot", 7)]) (i := 5) rfl sc_solved.nd rfl rfl (sw_true rfl rfl rfl (by decide +kernel)) (di_range2 (m := false) T.f_range (de_var 4) (de_var 2)) (blkOk_by (own := [("spot", 7)]) (N := N_solved) (sc := defScope s_solved) (by decide +kernel)) (fun _ _ _ _ _ => (dg_name (i := 7) sc_solved.nd (by decide))) (fun _ _ _ _ _ => (dts_one (dt_cmp (kop_neD K hu) s_ne (DE.toB (m := false) (kde_ix K (DE.toB (m := false) (kde_ix K (DE.toB (m := false) (kde_ix K (db_var 3) (db_var 7))) (db_var 4))) (DE.toB (m := false) de_int))) (DE.toB (m := false) de_int)))) (fun _ _ _ _ _ => (de_var 7)))
    (dss_cons (ds_if (dt_cmp (kop_eqD K hu) s_eq (db_var 5) (DE.toB (m := false) (DF.toE (df_lst da_nil)))) (dss_one (ds_ret de_non)) dss_nil)
    (dss_cons (ds_asg (de_tup (da_cons (kde_ix K (db_var 3) (DE.toB (m := false) (kde_ix K (db_var 5) (DE.toB (m := false) de_int)))) (da_cons (kde_ix K (db_var 3) (db_var 4)) da_nil))) (dx_tup rfl (dxs_cons (dx_sub (i := 3) (de_var 4)) (dxs_cons (dx_sub (i := 3) (kde_ix K (db_var 5) (DE.toB (m := false) de_int))) dxs_nil))))
    (dss_cons (ds_set (i := 6) sc_solved.nd (kde_ix K (DE.toB (m := false) (kde_ix K (db_var 3) (db_var 4))) (db_var 4)))
    (dss_cons (ds_asg (DF.toE (df_lc (own := [("one", 11)]) rfl sc_solved.nd (kdi_seq K (DE.toB (m := false) (kde_ix K (db_var 3) (db_var 4)))) (blkOk_by (own := [("one", 11)]) (N := N_solved) (sc := defScope s_solved) (by decide +kernel)) (fun _ _ _ _ _ => (dg_name (i := 11) sc_solved.nd (by decide))) (fun _ _ _ _ _ => dts_nil) (fun _ _ _ _ _ => (kde_callP K (k := 35) h_over (hr.mono (by decide)) (fun _ => RpAll.nil) (da_cons (de_var 11) (da_cons (de_var 6) da_nil)))))) (dx_sub (i := 3) (de_var 4)))
    (dss_one (ds_for (vs := [7]) PassesOwn.never rfl (di_range1 (m := true) T.f_range (de_var 2)) (dg_name (i := 7) sc_solved.nd (by decide)) (dss_one (ds_if (DW.dt (dw_and (dt_cmp (kop_neD K hu) s_ne (db_var 7) (db_var 4)) (dw_and1 (dt_cmp (kop_neD K hu) s_ne (DE.toB (m := false) (kde_ix K (DE.toB (m := false) (kde_ix K (DE.toB (m := false) (kde_ix K (db_var 3) (db_var 7))) (db_var 4))) (DE.toB (m := false) de_int))) (DE.toB (m := false) de_int))))) (dss_cons (ds_set (i := 8) sc_solved.nd (de_tup (da_cons (de_neg (DE.toB (m := false) (kde_ix K (DE.toB (m := false) (kde_ix K (DE.toB (m := false) (kde_ix K (db_var 3) (db_var 7))) (db_var 4))) (DE.toB (m := false) de_int)))) (da_cons (kde_ix K (DE.toB (m := false) (kde_ix K (DE.toB (m := false) (kde_ix K (db_var 3) (db_var 7))) (db_var 4))) (DE.toB (m := false) de_int)) da_nil))))
    (dss_one (ds_asg (kde_callP K (k := 36) h_added (hr.mono (by decide)) (fun _ => RpAll.nil) (da_cons (kde_ix K (db_var 3) (db_var 7)) (da_cons (kde_ix K (db_var 3) (db_var 4)) (da_cons (de_var 8) da_nil)))) (dx_sub (i := 3) (de_var 7))))) dss_nil))))))))))
    (dss_one (ds_ret (DF.toE (df_lc (own := [("spot", 7)]) rfl sc_solved.nd (di_range1 (m := false) T.f_range (de_callB (kcall_len K) (kc_len K) (db_var 1) T.f_len PySem.boot_len)) (blkOk_by (own := [("spot", 7)]) (N := N_solved) (sc := defScope s_solved) (by decide +kernel)) (fun _ _ _ _ _ => (dg_name (i := 7) sc_solved.nd (by decide))) (fun _ _ _ _ _ => dts_nil) (fun _ _ _ _ _ => (DF.toE (df_lc (own := [("line", 12)]) rfl sc_solved.nd (kdi_seq K (db_var 3)) (blkOk_by (own := [("line", 12)]) rfl) (fun _ _ _ _ _ => (dg_name (i := 12) sc_solved.nd (by decide))) (fun _ _ _ _ _ => dts_nil) (fun _ _ _ _ _ => (kde_ix K (db_var 12) (DE.toB (m := false) (de_op op_add s_add (db_var 2) (db_var 7)))))))))))))))⟩)
  have b : Binds K fd ["rows", "sides"] [] := F.bindsN fun _ _ _ _ _ _ us hl => match us, hl with | [_, _], _ => rfl
  exact ⟨_, fd, _, _, okP_of ok, T.g_solved, F.kp, b, .nil⟩
end WK


namespace WK
open PySem PySem.Spec PyProof.Rows L2 DL PG
variable {P : Program} {w : World} {K : PySem.W.Frag} {mg : Str → Option Value} {base : Heap}
theorem okG_held_table (T : Top K mg)  : Has P w K mg base "held_table" 1 [] (spG K (runDef g_held_table 2 7)) := by
  obtain ⟨fd, F⟩ := T.d_held_table
  have ok := def_okG (P := P) (w := w) (mg := mg) (base := base) (k := 0) (N := N_held_table) (ps := ["task", "lot"]) (g := g_held_table) F sc_held_table (fun cdv A outer s H E hr rc => by
    have hu := hr.units
    exact ⟨_, (dss_cons (ds_set (i := 2) sc_held_table.nd (de_callB (kcall_len K) (kc_len K) (DE.toB (m := false) (kde_ix K (db_var 0) (DE.toB (m := false) de_int))) T.f_len PySem.boot_len))
    (dss_cons (ds_setO (i := 3) sc_held_table.nd (df_lst da_nil))
    (dss_cons (ds_for (vs := [4]) PassesOwn.never rfl (di_range1 (m := true) T.f_range (de_var 2)) (dg_name (i := 4) sc_held_table.nd (by decide)) (dss_one (kds_append (i := 3) (DF.toE (df_op op_cat f_cat (DE.toB (m := false) (DF.toE (df_lc (own := [("one", 6)]) rfl sc_held_table.nd (kdi_seq K (DE.toB (m := false) (kde_ix K (DE.toB (m := false) (kde_ix K (db_var 0) (DE.toB (m := false) de_int))) (db_var 4)))) (blkOk_by (own := [("one", 6)]) (N := N_held_table) (sc := defScope s_held_table) (by decide +kernel)) (fun _ _ _ _ _ => (dg_name (i := 6) sc_held_table.nd (by decide))) (fun _ _ _ _ _ => dts_nil) (fun _ _ _ _ _ => (de_tup (da_cons (de_var 6) (da_cons de_int da_nil))))))) (DE.toB (m := false) (DF.toE (df_lc (own := [("spot", 5)]) rfl sc_held_table.nd (kdi_seq K (db_var 1)) (blkOk_by (own := [("spot", 5)]) (N := N_held_table) (sc := defScope s_held_table) (by decide +kernel)) (fun _ _ _ _ _ => (dg_name (i := 5) sc_held_table.nd (by decide))) (fun _ _ _ _ _ => dts_nil) (fun _ _ _ _ _ => (de_tup (da_cons (de_neg (DE.toB (m := false) (kde_ix K (DE.toB (m := false) (kde_ix K (DE.toB (m := false) (kde_ix K (DE.toB (m := false) (kde_ix K (db_var 0) (DE.toB (m := false) de_int))) (db_var 5))) (DE.toB (m := false) de_int))) (db_var 4)))) (da_cons de_int da_nil))))))))))))
    (dss_cons (ds_for (vs := [5]) PassesOwn.never rfl (kdi_seq K (db_varS 1)) (dg_name (i := 5) sc_held_table.nd (by decide)) (dss_one (kds_append (i := 3) (DF.toE (df_op op_cat f_cat (DE.toB (m := false) (DF.toE (df_lc (own := [("one", 6)]) rfl sc_held_table.nd (kdi_seq K (DE.toB (m := false) (kde_ix K (DE.toB (m := false) (kde_ix K (DE.toB (m := false) (kde_ix K (db_var 0) (DE.toB (m := false) de_int))) (db_var 5))) (DE.toB (m := false) de_int)))) (blkOk_by (own := [("one", 6)]) (N := N_held_table) (sc := defScope s_held_table) (by decide +kernel)) (fun _ _ _ _ _ => (dg_name (i := 6) sc_held_table.nd (by decide))) (fun _ _ _ _ _ => dts_nil) (fun _ _ _ _ _ => (de_tup (da_cons (de_var 6) (da_cons de_int da_nil))))))) (DE.toB (m := false) (DF.toE (df_op op_rep f_rep (DE.toB (m := false) (DF.toE (df_lst (da_cons (de_glob T.c_NOUGHT) da_nil)))) (DE.toB (m := false) (de_callB (kcall_len K) (kc_len K) (db_var 1) T.f_len PySem.boot_len))))))))))
    (dss_one (ds_fz 3 (ds_ret (de_var 3))))))))⟩)
  have b : Binds K fd ["task", "lot"] [] := F.bindsN fun _ _ _ _ _ _ us hl => match us, hl with | [_, _], _ => rfl
  exact ⟨_, fd, _, _, ok, T.g_held_table, F.kp, b, .nil⟩
end WK


namespace WK
open PySem PySem.Spec PyProof.Rows L2 DL PG
variable {P : Program} {w : World} {K : PySem.W.Frag} {mg : Str → Option Value} {base : Heap}
theorem ok_held (T : Top K mg) (h_rights_at : Has P w K mg base "rights_at" 36 [] (spP K F_rights_at)) (h_negative : Has P w K mg base "negative" 1 [] (spP K F_negative)) (h_costs_at : Has P w K mg base "costs_at" 36 [] (spP K F_costs_at)) (h_solved : Has P w K mg base "solved" 37 [] (spP K F_solved)) (h_held_table : Has P w K mg base "held_table" 1 [] (spP K F_held_table)) : Has P w K mg base "held" 38 [] (spP K F_held) := by
  obtain ⟨fd, F⟩ := T.d_held
  have ok := def_okG (P := P) (w := w) (mg := mg) (base := base) (k := 37) (N := N_held) (ps := ["task", "share", "lot"]) (g := g_held) F sc_held (fun cdv A outer s H E hr rc => by
    have hu := hr.units
    exact ⟨_, (dss_cons (ds_set (i := 3) sc_held.nd (kde_callP K (k := 36) h_rights_at (hr.mono (by decide)) (fun _ => RpAll.nil) (da_cons (de_var 0) (da_cons (de_var 1) da_nil))))
    (dss_cons (ds_set (i := 4) sc_held.nd (DF.toE (df_op op_cat f_cat (DE.toB (m := false) (kde_callP K (k := 1) h_negative (hr.mono (by decide)) (fun _ => RpAll.nil) (da_cons (kde_callP K (k := 36) h_costs_at (hr.mono (by decide)) (fun _ => RpAll.nil) (da_cons (de_var 0) (da_cons (de_var 1) da_nil))) da_nil))) (DE.toB (m := false) (DF.toE (df_lc (own := [("spot", 6)]) rfl sc_held.nd (kdi_seq K (db_var 2)) (blkOk_by (own := [("spot", 6)]) (N := N_held) (sc := defScope s_held) (by decide +kernel)) (fun _ _ _ _ _ => (dg_name (i := 6) sc_held.nd (by decide))) (fun _ _ _ _ _ => dts_nil) (fun _ _ _ _ _ => (kde_ix K (db_var 3) (db_var 6)))))))))
    (dss_cons (ds_set (i := 5) sc_held.nd (kde_callP K (k := 37) h_solved (hr.mono (by decide)) (fun _ => RpAll.nil) (da_cons (kde_callP K (k := 1) h_held_table (hr.mono (by decide)) (fun _ => RpAll.nil) (da_cons (de_var 0) (da_cons (de_var 2) da_nil))) (da_cons (DF.toE (df_lst (da_cons (de_var 4) da_nil))) da_nil))))
    (dss_one (ds_ret (de_if (dt_isN (db_var 5)) de_non (de_tup (da_cons (kde_slice K (DE.toB (m := false) (kde_ix K (db_var 5) (DE.toB (m := false) de_int))) do_none (do_some (de_callB (kcall_len K) (kc_len K) (DE.toB (m := false) (kde_ix K (db_var 0) (DE.toB (m := false) de_int))) T.f_len PySem.boot_len))) (da_cons (kde_slice K (DE.toB (m := false) (kde_ix K (db_var 5) (DE.toB (m := false) de_int))) (do_some (de_callB (kcall_len K) (kc_len K) (DE.toB (m := false) (kde_ix K (db_var 0) (DE.toB (m := false) de_int))) T.f_len PySem.boot_len)) do_none) da_nil)))))))))⟩)
  have b : Binds K fd ["task", "share", "lot"] [] := F.bindsN fun _ _ _ _ _ _ us hl => match us, hl with | [_, _, _], _ => rfl
  exact ⟨_, fd, _, _, okP_of ok, T.g_held, F.kp, b, .nil⟩
end WK


namespace WK
open PySem PySem.Spec PyProof.Rows L2 DL PG
variable {P : Program} {w : World} {K : PySem.W.Frag} {mg : Str → Option Value} {base : Heap}
theorem ok_Holder_init (T : Top K mg) (h_held : Has P w K mg base "held" 38 [] (spP K F_held)) : HasI P w K mg base (He.ga K "Holder") 39 (spM K (He.ga K "Holder") F_Holder_init) := by
  obtain ⟨fd, F⟩ := T.d_Holder_init
  have b : Binds K fd ["self", "task", "share"] [] := F.bindsN fun _ _ _ _ _ _ us hl => match us, hl with | [_, _, _], _ => rfl
  have ok := meth_ok (P := P) (w := w) (mg := mg) (base := base) (C := He.ga K "Holder") (k := 38) (N := N_Holder_init) (ps := ["self", "task", "share"]) (g := g_Holder_init) F sc_Holder_init (fun cdv A outer s H E hr => by
    have hu := hr.units
    have d : DHs (cxOf CX0 P w K mg base N_Holder_init "Holder.__init__" (defScope s_Holder_init) (He.ma K (He.ga K "Holder") "__init__") cdv A outer s H E).nox (He.ga K "Holder") 0 (defBody s_Holder_init) _ g_Holder_init := (dhs_cons (dh_fld T.n_Holder_task (de_var 1))
    (dhs_cons (dh_fld T.n_Holder_share (de_var 2))
    (dhs_cons (dh_fldF T.n_Holder_lot (df_lst da_nil))
    (dhs_cons (dh_fldF T.n_Holder_weights (df_lst da_nil))
    (dhs_one (dh_fld T.n_Holder_plan (kde_ix K (DE.toB (m := false) (kde_callP K (k := 38) h_held (hr.mono (by decide)) (fun _ => RpAll.nil) (da_cons (de_var 1) (da_cons (de_var 2) (da_cons (de_tup da_nil) da_nil))))) (DE.toB (m := false) de_int))))))))
    exact ⟨_, d.ps, d.se⟩)
  exact ⟨_, fd, _, ok, T.k_Holder, b⟩
end WK


namespace WK
open PySem PySem.Spec PyProof.Rows L2 DL PG
variable {P : Program} {w : World} {K : PySem.W.Frag} {mg : Str → Option Value} {base : Heap}
theorem okG_turn_of (T : Top K mg) (h_solved : Has P w K mg base "solved" 37 [] (spP K F_solved)) (hG_held_table : Has P w K mg base "held_table" 1 [] (spG K (runDef g_held_table 2 7))) : Has P w K mg base "turn_of" 38 [] (spG K (runDef g_turn_of 3 7)) := by
  obtain ⟨fd, F⟩ := T.d_turn_of
  have ok := def_okG (P := P) (w := w) (mg := mg) (base := base) (k := 37) (N := N_turn_of) (ps := ["task", "lot", "numbers"]) (g := g_turn_of) F sc_turn_of (fun cdv A outer s H E hr rc => by
    have hu := hr.units
    exact ⟨_, (dss_cons (ds_set (i := 3) sc_turn_of.nd (de_callB (kcall_len K) (kc_len K) (DE.toB (m := false) (kde_ix K (db_var 0) (DE.toB (m := false) de_int))) T.f_len PySem.boot_len))
    (dss_cons (ds_set (i := 4) sc_turn_of.nd (DF.toE (df_op op_cat f_cat (DE.toB (m := false) (DF.toE (df_lc (own := [("one", 6)]) rfl sc_turn_of.nd (kdi_seq K (db_var 2)) (blkOk_by (own := [("one", 6)]) (N := N_turn_of) (sc := defScope s_turn_of) (by decide +kernel)) (fun _ _ _ _ _ => (dg_name (i := 6) sc_turn_of.nd (by decide))) (fun _ _ _ _ _ => dts_nil) (fun _ _ _ _ _ => (de_tup (da_cons (de_var 6) (da_cons de_int da_nil))))))) (DE.toB (m := false) (DF.toE (df_op op_rep f_rep (DE.toB (m := false) (DF.toE (df_lst (da_cons (de_glob T.c_NOUGHT) da_nil)))) (DE.toB (m := false) (de_callB (kcall_len K) (kc_len K) (db_var 1) T.f_len PySem.boot_len))))))))
    (dss_cons (ds_set (i := 5) sc_turn_of.nd (kde_ix K (DE.toB (m := false) (kde_callP K (k := 37) h_solved (hr.mono (by decide)) (fun _ => RpAll.nil) (da_cons (kde_callG K (k := 1) hG_held_table (hr.mono (by decide)) (dr_cons (de_var 0) (dr_bor (i := 1) dr_nil))) (da_cons (DF.toE (df_lst (da_cons (de_var 4) da_nil))) da_nil)))) (DE.toB (m := false) de_int)))
    (dss_one (ds_ret (de_tup (da_cons (kde_slice K (db_var 5) do_none (do_some (de_var 3))) (da_cons (kde_slice K (db_var 5) (do_some (de_var 3)) do_none) da_nil))))))))⟩)
  have b : Binds K fd ["task", "lot", "numbers"] [] := F.bindsN fun _ _ _ _ _ _ us hl => match us, hl with | [_, _, _], _ => rfl
  exact ⟨_, fd, _, _, ok, T.g_turn_of, F.kp, b, .nil⟩
end WK


namespace WK
open PySem PySem.Spec PyProof.Rows L2 DL PG
variable {P : Program} {w : World} {K : PySem.W.Frag} {mg : Str → Option Value} {base : Heap}
theorem ok_is_below (T : Top K mg)  : Has P w K mg base "is_below" 1 [] (spP K F_is_below) := by
  obtain ⟨fd, F⟩ := T.d_is_below
  have ok := def_okG (P := P) (w := w) (mg := mg) (base := base) (k := 0) (N := N_is_below) (ps := ["one", "other"]) (g := g_is_below) F sc_is_below (fun cdv A outer s H E hr rc => by
    have hu := hr.units
    exact ⟨_, (dss_one (ds_ret (de_cmp op_lt s_lt (DE.toB (m := false) (de_op op_mulM s_mul (DE.toB (m := false) (kde_ix K (db_var 0) (DE.toB (m := false) de_int))) (DE.toB (m := false) (kde_ix K (db_var 1) (DE.toB (m := false) de_int))))) (DE.toB (m := false) (de_op op_mulM s_mul (DE.toB (m := false) (kde_ix K (db_var 1) (DE.toB (m := false) de_int))) (DE.toB (m := false) (kde_ix K (db_var 0) (DE.toB (m := false) de_int))))))))⟩)
  have b : Binds K fd ["one", "other"] [] := F.bindsN fun _ _ _ _ _ _ us hl => match us, hl with | [_, _], _ => rfl
  exact ⟨_, fd, _, _, okP_of ok, T.g_is_below, F.kp, b, .nil⟩
end WK


namespace WK
open PySem PySem.Spec PyProof.Rows L2 DL PG
variable {P : Program} {w : World} {K : PySem.W.Frag} {mg : Str → Option Value} {base : Heap}
theorem okG_first_out (T : Top K mg) (h_over : Has P w K mg base "over" 35 [] (spP K F_over)) (h_is_below : Has P w K mg base "is_below" 1 [] (spP K F_is_below)) : Has P w K mg base "first_out" 36 [] (spG K (runDef g_first_out 2 7)) := by
  obtain ⟨fd, F⟩ := T.d_first_out
  have ok := def_okG (P := P) (w := w) (mg := mg) (base := base) (k := 35) (N := N_first_out) (ps := ["weights", "steps"]) (g := g_first_out) F sc_first_out (fun cdv A outer s H E hr rc => by
    have hu := hr.units
    exact ⟨_, (dss_cons (ds_set (i := 2) sc_first_out.nd de_non)
    (dss_cons (ds_for (vs := [3, 4, 5]) PassesOwn.never rfl (kdi_ez K T.f_enumerate T.f_zip (db_varS 0) (db_varS 1)) (kdg_tup K rfl (dgs_cons (dg_name (i := 3) sc_first_out.nd (by decide)) (dgs_cons (kdg_tup K rfl (dgs_cons (dg_name (i := 4) sc_first_out.nd (by decide)) (dgs_cons (dg_name (i := 5) sc_first_out.nd (by decide)) dgs_nil))) dgs_nil))) (dss_one (ds_if (dt_cmp op_lt s_lt (DE.toB (m := false) (kde_ix K (db_var 5) (DE.toB (m := false) de_int))) (DE.toB (m := false) de_int)) (dss_cons (ds_set (i := 6) sc_first_out.nd (kde_callP K (k := 35) h_over (hr.mono (by decide)) (fun _ => RpAll.nil) (da_cons (de_var 4) (da_cons (de_tup (da_cons (de_neg (DE.toB (m := false) (kde_ix K (db_var 5) (DE.toB (m := false) de_int)))) (da_cons (kde_ix K (db_var 5) (DE.toB (m := false) de_int)) da_nil))) da_nil))))
    (dss_one (ds_if (DW.dt (dw_or (dt_isN (db_var 2)) (dw_or1 (dt_val (kde_callP K (k := 1) h_is_below (hr.mono (by decide)) (fun _ => RpAll.nil) (da_cons (de_var 6) (da_cons (kde_ix K (db_var 2) (DE.toB (m := false) de_int)) da_nil))))))) (dss_one (ds_set (i := 2) sc_first_out.nd (de_tup (da_cons (de_var 6) (da_cons (de_var 3) da_nil))))) dss_nil))) dss_nil)))
    (dss_one (ds_ret (de_var 2)))))⟩)
  have b : Binds K fd ["weights", "steps"] [] := F.bindsN fun _ _ _ _ _ _ us hl => match us, hl with | [_, _], _ => rfl
  exact ⟨_, fd, _, _, ok, T.g_first_out, F.kp, b, .nil⟩
end WK


namespace WK
open PySem PySem.Spec PyProof.Rows L2 DL PG
variable {P : Program} {w : World} {K : PySem.W.Frag} {mg : Str → Option Value} {base : Heap}
theorem ok_inner (T : Top K mg) (h_plus : Has P w K mg base "plus" 35 [] (spP K F_plus)) (h_times : Has P w K mg base "times" 35 [] (spP K F_times)) : Has P w K mg base "inner" 36 [] (spP K F_inner) := by
  obtain ⟨fd, F⟩ := T.d_inner
  have ok := def_okG (P := P) (w := w) (mg := mg) (base := base) (k := 35) (N := N_inner) (ps := ["numbers", "row"]) (g := g_inner) F sc_inner (fun cdv A outer s H E hr rc => by
    have hu := hr.units
    exact ⟨_, (dss_cons (ds_set (i := 2) sc_inner.nd (de_glob T.c_NOUGHT))
    (dss_cons (ds_for (vs := [3, 4]) PassesOwn.never rfl (kdi_zip2 K T.f_zip (db_varS 0) (db_varS 1)) (kdg_tup K rfl (dgs_cons (dg_name (i := 3) sc_inner.nd (by decide)) (dgs_cons (dg_name (i := 4) sc_inner.nd (by decide)) dgs_nil))) (dss_one (ds_set (i := 2) sc_inner.nd (kde_callP K (k := 35) h_plus (hr.mono (by decide)) (fun _ => RpAll.nil) (da_cons (de_var 2) (da_cons (kde_callP K (k := 35) h_times (hr.mono (by decide)) (fun _ => RpAll.nil) (da_cons (de_tup (da_cons (de_var 3) (da_cons de_int da_nil))) (da_cons (de_var 4) da_nil))) da_nil))))))
    (dss_one (ds_ret (de_var 2)))))⟩)
  have b : Binds K fd ["numbers", "row"] [] := F.bindsN fun _ _ _ _ _ _ us hl => match us, hl with | [_, _], _ => rfl
  exact ⟨_, fd, _, _, okP_of ok, T.g_inner, F.kp, b, .nil⟩
end WK


namespace WK
open PySem PySem.Spec PyProof.Rows L2 DL PG
variable {P : Program} {w : World} {K : PySem.W.Frag} {mg : Str → Option Value} {base : Heap}
theorem okG_spread (T : Top K mg)  : Has P w K mg base "spread" 1 [] (spG K (runDef g_spread 3 6)) := by
  obtain ⟨fd, F⟩ := T.d_spread
  have ok := def_okG (P := P) (w := w) (mg := mg) (base := base) (k := 0) (N := N_spread) (ps := ["task", "lot", "weights"]) (g := g_spread) F sc_spread (fun cdv A outer s H E hr rc => by
    have hu := hr.units
    exact ⟨_, (dss_cons (ds_setO (i := 3) sc_spread.nd (df_op op_rep f_rep (DE.toB (m := false) (DF.toE (df_lst (da_cons (de_glob T.c_NOUGHT) da_nil)))) (DE.toB (m := false) (de_callB (kcall_len K) (kc_len K) (DE.toB (m := false) (kde_ix K (db_var 0) (DE.toB (m := false) de_int))) T.f_len PySem.boot_len))))
    (dss_cons (ds_for (vs := [4, 5]) PassesOwn.never rfl (kdi_zip2 K T.f_zip (db_varS 1) (db_varS 2)) (kdg_tup K rfl (dgs_cons (dg_name (i := 4) sc_spread.nd (by decide)) (dgs_cons (dg_name (i := 5) sc_spread.nd (by decide)) dgs_nil))) (dss_one (ds_asg (de_var 5) (dx_sub (i := 3) (de_var 4)))))
    (dss_one (ds_ret (de_callTy (kcall_tuple K) c_tuple (db_var 3) T.f_tuple PyProof.Rows.boot_tuple)))))⟩)
  have b : Binds K fd ["task", "lot", "weights"] [] := F.bindsN fun _ _ _ _ _ _ us hl => match us, hl with | [_, _, _], _ => rfl
  exact ⟨_, fd, _, _, ok, T.g_spread, F.kp, b, .nil⟩
end WK


namespace WK
open PySem PySem.Spec PyProof.Rows L2 DL PG
variable {P : Program} {w : World} {K : PySem.W.Frag} {mg : Str → Option Value} {base : Heap}
theorem ok_less (T : Top K mg) (h_fraction : Has P w K mg base "fraction" 34 [] (spP K F_fraction)) : Has P w K mg base "less" 35 [] (spP K F_less) := by
  obtain ⟨fd, F⟩ := T.d_less
  have ok := def_okG (P := P) (w := w) (mg := mg) (base := base) (k := 34) (N := N_less) (ps := ["one", "other"]) (g := g_less) F sc_less (fun cdv A outer s H E hr rc => by
    have hu := hr.units
    exact ⟨_, (dss_one (ds_ret (kde_callP K (k := 34) h_fraction (hr.mono (by decide)) (fun _ => RpAll.nil) (da_cons (de_op op_sub s_sub (DE.toB (m := false) (de_op op_mulM s_mul (DE.toB (m := false) (kde_ix K (db_var 0) (DE.toB (m := false) de_int))) (DE.toB (m := false) (kde_ix K (db_var 1) (DE.toB (m := false) de_int))))) (DE.toB (m := false) (de_op op_mulM s_mul (DE.toB (m := false) (kde_ix K (db_var 1) (DE.toB (m := false) de_int))) (DE.toB (m := false) (kde_ix K (db_var 0) (DE.toB (m := false) de_int)))))) (da_cons (de_op op_mulM s_mul (DE.toB (m := false) (kde_ix K (db_var 0) (DE.toB (m := false) de_int))) (DE.toB (m := false) (kde_ix K (db_var 1) (DE.toB (m := false) de_int)))) da_nil)))))⟩)
  have b : Binds K fd ["one", "other"] [] := F.bindsN fun _ _ _ _ _ _ us hl => match us, hl with | [_, _], _ => rfl
  exact ⟨_, fd, _, _, okP_of ok, T.g_less, F.kp, b, .nil⟩
end WK


namespace WK
open PySem PySem.Spec PyProof.Rows L2 DL PG
variable {P : Program} {w : World} {K : PySem.W.Frag} {mg : Str → Option Value} {base : Heap}
theorem ok_gaps_of (T : Top K mg) (h_rights_at : Has P w K mg base "rights_at" 36 [] (spP K F_rights_at)) (h_less : Has P w K mg base "less" 35 [] (spP K F_less)) (h_inner : Has P w K mg base "inner" 36 [] (spP K F_inner)) : Has P w K mg base "gaps_of" 37 [] (spP K F_gaps_of) := by
  obtain ⟨fd, F⟩ := T.d_gaps_of
  have ok := def_okG (P := P) (w := w) (mg := mg) (base := base) (k := 36) (N := N_gaps_of) (ps := ["task", "share", "plan"]) (g := g_gaps_of) F sc_gaps_of (fun cdv A outer s H E hr rc => by
    have hu := hr.units
    exact ⟨_, (dss_one (ds_ret (DF.toE (df_lc (own := [("row", 3), ("right", 4)]) rfl sc_gaps_of.nd (kdi_zip2 K T.f_zip (DE.toB (m := false) (kde_ix K (db_var 0) (DE.toB (m := false) de_int))) (DE.toB (m := false) (kde_callP K (k := 36) h_rights_at (hr.mono (by decide)) (fun _ => RpAll.nil) (da_cons (de_var 0) (da_cons (de_var 1) da_nil))))) (blkOk_by (own := [("row", 3), ("right", 4)]) (N := N_gaps_of) (sc := defScope s_gaps_of) (by decide +kernel)) (fun _ _ _ _ _ => (kdg_tup K rfl (dgs_cons (dg_name (i := 3) sc_gaps_of.nd (by decide)) (dgs_cons (dg_name (i := 4) sc_gaps_of.nd (by decide)) dgs_nil)))) (fun _ _ _ _ _ => dts_nil) (fun _ _ _ _ _ => (kde_callP K (k := 35) h_less (hr.mono (by decide)) (fun _ => RpAll.nil) (da_cons (kde_callP K (k := 36) h_inner (hr.mono (by decide)) (fun _ => RpAll.nil) (da_cons (kde_ix K (db_var 3) (DE.toB (m := false) de_int)) (da_cons (de_var 2) da_nil))) (da_cons (de_var 4) da_nil))))))))⟩)
  have b : Binds K fd ["task", "share", "plan"] [] := F.bindsN fun _ _ _ _ _ _ us hl => match us, hl with | [_, _, _], _ => rfl
  exact ⟨_, fd, _, _, okP_of ok, T.g_gaps_of, F.kp, b, .nil⟩
end WK


namespace WK
open PySem PySem.Spec PyProof.Rows L2 DL PG
variable {P : Program} {w : World} {K : PySem.W.Frag} {mg : Str → Option Value} {base : Heap}
theorem ok_Holder_brought (T : Top K mg) (hG_turn_of : Has P w K mg base "turn_of" 38 [] (spG K (runDef g_turn_of 3 7))) (hG_first_out : Has P w K mg base "first_out" 36 [] (spG K (runDef g_first_out 2 7))) (h_inner : Has P w K mg base "inner" 36 [] (spP K F_inner)) (h_spread : Has P w K mg base "spread" 1 [] (spP K F_spread)) (h_over : Has P w K mg base "over" 35 [] (spP K F_over)) (h_less : Has P w K mg base "less" 35 [] (spP K F_less)) (h_gaps_of : Has P w K mg base "gaps_of" 37 [] (spP K F_gaps_of)) (h_is_below : Has P w K mg base "is_below" 1 [] (spP K F_is_below)) (h_added : Has P w K mg base "added" 36 [] (spP K F_added)) (hN_added : Has P w K mg base "added" 36 [] (spGN K (runNew n_added 3 5))) : HasM P w K mg base (He.ga K "Holder") "brought" 39 (spM K (He.ga K "Holder") F_Holder_brought) := by
  obtain ⟨fd, F⟩ := T.d_Holder_brought
  have b : Binds K fd ["self", "row"] [] := F.bindsN fun _ _ _ _ _ _ us hl => match us, hl with | [_, _], _ => rfl
  have ok := meth_ok (P := P) (w := w) (mg := mg) (base := base) (C := He.ga K "Holder") (k := 38) (N := N_Holder_brought) (ps := ["self", "row"]) (g := g_Holder_brought) F sc_Holder_brought (fun cdv A outer s H E hr => by
    have hu := hr.units
    have d : DHs (cxOf CX0 P w K mg base N_Holder_brought "Holder.brought" (defScope s_Holder_brought) (He.ma K (He.ga K "Holder") "brought") cdv A outer s H E).nox (He.ga K "Holder") 0 (defBody s_Holder_brought) _ g_Holder_brought := (dhs_cons (dh_pure (ds_par (i := 2) (j := 3) rfl sc_Holder_brought.nd (DE.v (kde_ix K (DE.toB (m := false) (kde_ix K (DE.toB (m := false) (kde_ix K (db_fld (m := false) K 0) (DE.toB (m := false) de_int))) (db_var 1))) (DE.toB (m := false) de_int))) (DE.v (de_glob T.c_NOUGHT)) (by decide)))
    (dhs_one (dh_while 1000 PassesOwn.never (dt_val de_bl) (dhs_cons (dh_pure (ds_asg (kde_callG K (k := 38) hG_turn_of (hr.mono (by decide)) (dr_cons (de_fld K 0) (dr_b (db_fld (m := false) K 0) (dr_cons (de_var 2) dr_nil)))) (DG.toX (vs := [4, 5]) (kdg_tup K rfl (dgs_cons (dg_name (i := 4) sc_Holder_brought.nd (by decide)) (dgs_cons (dg_name (i := 5) sc_Holder_brought.nd (by decide)) dgs_nil))))))
    (dhs_cons (dh_pure (ds_set (i := 6) sc_Holder_brought.nd (kde_callG K (k := 36) hG_first_out (hr.mono (by decide)) (dr_b (db_fld (m := false) K 0) (dr_cons (de_var 5) dr_nil)))))
    (dhs_cons (dh_pure (ds_set (i := 7) sc_Holder_brought.nd (kde_callP K (k := 36) h_inner (hr.mono (by decide)) (fun _ => RpAll.nil) (da_cons (de_var 2) (da_cons (de_var 4) da_nil)))))
    (dhs_cons (dh_pure (ds_if (DW.dt (dw_and (dt_cmp (kop_eqD K hu) s_eq (DE.toB (m := false) (kde_ix K (db_var 7) (DE.toB (m := false) de_int))) (DE.toB (m := false) de_int)) (dw_and1 (dt_isN (db_var 6))))) (dss_one (ds_ret (kde_callP K (k := 1) h_spread (hr.mono (by decide)) (fun _ => RpAll.nil) (da_cons (de_fld K 0) (da_cons (DF.toE (df_lst (kda_star K (db_fld (m := false) K 0) (da_cons (de_var 1) da_nil)))) (da_cons (DF.toE (df_lst (kda_star K (db_var 5) (da_cons (de_tup (da_cons de_int (da_cons de_int da_nil))) da_nil)))) da_nil)))))) dss_nil))
    (dhs_cons (dh_pure (ds_set (i := 8) sc_Holder_brought.nd de_non))
    (dhs_cons (dh_pure (ds_if (dt_cmp op_gt s_gt (DE.toB (m := false) (kde_ix K (db_var 7) (DE.toB (m := false) de_int))) (DE.toB (m := false) de_int)) (dss_one (ds_set (i := 8) sc_Holder_brought.nd (kde_callP K (k := 35) h_over (hr.mono (by decide)) (fun _ => RpAll.nil) (da_cons (kde_callP K (k := 35) h_less (hr.mono (by decide)) (fun _ => RpAll.nil) (da_cons (de_tup (da_cons de_int (da_cons de_int da_nil))) (da_cons (kde_ix K (DE.toB (m := false) (kde_callP K (k := 37) h_gaps_of (hr.mono (by decide)) (fun _ => RpAll.nil) (da_cons (de_fld K 0) (da_cons (de_fld K 0) (da_cons (de_fld K 0) da_nil))))) (db_var 1)) da_nil))) (da_cons (de_var 7) da_nil))))) dss_nil))
    (dhs_cons (dh_pure (ds_set (i := 9) sc_Holder_brought.nd (de_if (DW.dt (dw_or (dt_isN (db_var 6)) (dw_or1 (DW.dt (dw_and (dt_notN (db_var 8)) (dw_and1 (dt_not (dt_val (kde_callP K (k := 1) h_is_below (hr.mono (by decide)) (fun _ => RpAll.nil) (da_cons (kde_ix K (db_var 6) (DE.toB (m := false) de_int)) (da_cons (de_var 8) da_nil))))))))))) (de_var 8) (kde_ix K (db_var 6) (DE.toB (m := false) de_int)))))
    (dhs_cons (dh_fld T.n_Holder_plan (kde_callP K (k := 36) h_added (hr.mono (by decide)) (fun _ => RpAll.nil) (da_cons (de_fld K 0) (da_cons (de_var 4) (da_cons (de_var 9) da_nil)))))
    (dhs_cons (dh_fldN T.n_Holder_weights (nf_callN K (rc := none) (k := 36) (dvs := []) (dds := []) hN_added (fun _ _ => .nil) (hr.mono (by decide)) (dr_b (db_fld (m := false) K 0) (dr_cons (de_var 5) (dr_cons (de_var 9) dr_nil)))))
    (dhs_cons (dh_pure (ds_set (i := 3) sc_Holder_brought.nd (kde_ix K (DE.toB (m := false) (kde_callP K (k := 36) h_added (hr.mono (by decide)) (fun _ => RpAll.nil) (da_cons (DF.toE (df_lst (da_cons (de_var 3) da_nil))) (da_cons (DF.toE (df_lst (da_cons (de_tup (da_cons de_int (da_cons de_int da_nil))) da_nil))) (da_cons (de_var 9) da_nil))))) (DE.toB (m := false) de_int))))
    (dhs_cons (dh_if (dt_cmp (kop_eqD K hu) s_eq (db_var 9) (db_var 8)) (dhs_cons (dh_app (f := "lot") (de_var 1))
    (dhs_cons (dh_app (f := "weights") (de_var 3))
    (dhs_one (dh_pure (ds_ret de_non))))) dhs_nil)
    (dhs_cons (dh_pop (f := "lot") (kde_ix K (db_var 6) (DE.toB (m := false) de_int)))
    (dhs_one (dh_pop (f := "weights") (kde_ix K (db_var 6) (DE.toB (m := false) de_int)))))))))))))))))))
    exact ⟨_, d.ps, d.se⟩)
  exact ⟨_, fd, _, ok, T.m_Holder_brought, b⟩
end WK


namespace WK
open PySem PySem.Spec PyProof.Rows L2 DL PG
variable {P : Program} {w : World} {K : PySem.W.Frag} {mg : Str → Option Value} {base : Heap}
theorem ok_Holder_done (T : Top K mg) (hM_Holder_brought : HasM P w K mg base (He.ga K "Holder") "brought" 39 (spM K (He.ga K "Holder") F_Holder_brought)) (h_gaps_of : Has P w K mg base "gaps_of" 37 [] (spP K F_gaps_of)) : HasM P w K mg base (He.ga K "Holder") "done" 40 (spM K (He.ga K "Holder") F_Holder_done) := by
  obtain ⟨fd, F⟩ := T.d_Holder_done
  have b : Binds K fd ["self"] [] := F.bindsN fun _ _ _ _ _ _ us hl => match us, hl with | [_], _ => rfl
  have ok := meth_ok (P := P) (w := w) (mg := mg) (base := base) (C := He.ga K "Holder") (k := 39) (N := N_Holder_done) (ps := ["self"]) (g := g_Holder_done) F sc_Holder_done (fun cdv A outer s H E hr => by
    have hu := hr.units
    have d : DHs (cxOf CX0 P w K mg base N_Holder_done "Holder.done" (defScope s_Holder_done) (He.ma K (He.ga K "Holder") "done") cdv A outer s H E).nox (He.ga K "Holder") 0 (defBody s_Holder_done) _ g_Holder_done := (dhs_one (dh_while 1000 PassesOwn.never (dt_val de_bl) (dhs_cons (dh_pure (ds_set (i := 1) sc_Holder_done.nd (kde_callP K (k := 37) h_gaps_of (hr.mono (by decide)) (fun _ => RpAll.nil) (da_cons (de_fld K 0) (da_cons (de_fld K 0) (da_cons (de_fld K 0) da_nil))))))
    (dhs_cons (dh_pure (ds_setLc (own := [("at", 4), ("gap", 5)]) (i := 2) rfl sc_Holder_done.nd rfl rfl (sw_true rfl rfl rfl (by decide +kernel)) (kdi_enum K T.f_enumerate (db_var 1)) (blkOk_by (own := [("at", 4), ("gap", 5)]) (N := N_Holder_done) (sc := defScope s_Holder_done) (by decide +kernel)) (fun _ _ _ _ _ => (kdg_tup K rfl (dgs_cons (dg_name (i := 4) sc_Holder_done.nd (by decide)) (dgs_cons (dg_name (i := 5) sc_Holder_done.nd (by decide)) dgs_nil)))) (fun _ _ _ _ _ => (dts_one (dt_cmp op_lt s_lt (DE.toB (m := false) (kde_ix K (db_var 5) (DE.toB (m := false) de_int))) (DE.toB (m := false) de_int)))) (fun _ _ _ _ _ => (de_var 4))))
    (dhs_cons (dh_pure (ds_if (dt_cmp (kop_eqD K hu) s_eq (db_var 2) (DE.toB (m := false) (DF.toE (df_lst da_nil)))) (dss_one (ds_ret de_non)) dss_nil))
    (dhs_cons (dh_call (i0 := 0) (j := 3) (k := 39) sc_Holder_done.nd hM_Holder_brought T.c_Holder (hr.mono (by decide)) (by decide) (da_cons (kde_ix K (db_var 2) (DE.toB (m := false) de_int)) da_nil))
    (dhs_one (dh_pure (ds_if (dt_notN (db_var 3)) (dss_one (ds_ret (de_var 3))) dss_nil)))))))))
    exact ⟨_, d.ps, d.se⟩)
  exact ⟨_, fd, _, ok, T.m_Holder_done, b⟩
end WK


namespace WK
open PySem PySem.Spec PyProof.Rows L2 DL PG
variable {P : Program} {w : World} {K : PySem.W.Frag} {mg : Str → Option Value} {base : Heap}
theorem ok_is_int (T : Top K mg)  : Has P w K mg base "is_int" 1 [] (spP K F_is_int) := by
  obtain ⟨fd, F⟩ := T.d_is_int
  have ok := def_okG (P := P) (w := w) (mg := mg) (base := base) (k := 0) (N := N_is_int) (ps := ["value"]) (g := g_is_int) F sc_is_int (fun cdv A outer s H E hr rc => by
    have hu := hr.units
    exact ⟨_, (dss_one (ds_ret (de_and (kde_isi K (T := "int") (db_var 0) T.f_isinstance T.f_int (by decide +kernel)) (de_one (de_not (kde_isi K (T := "bool") (db_var 0) T.f_isinstance T.f_bool (by decide +kernel)))))))⟩)
  have b : Binds K fd ["value"] [] := F.bindsN fun _ _ _ _ _ _ us hl => match us, hl with | [_], _ => rfl
  exact ⟨_, fd, _, _, okP_of ok, T.g_is_int, F.kp, b, .nil⟩
end WK


namespace WK
open PySem PySem.Spec PyProof.Rows L2 DL PG
variable {P : Program} {w : World} {K : PySem.W.Frag} {mg : Str → Option Value} {base : Heap}
theorem ok_is_small (T : Top K mg) (h_is_int : Has P w K mg base "is_int" 1 [] (spP K F_is_int)) : Has P w K mg base "is_small" 2 [] (spP K F_is_small) := by
  obtain ⟨fd, F⟩ := T.d_is_small
  have ok := def_okG (P := P) (w := w) (mg := mg) (base := base) (k := 1) (N := N_is_small) (ps := ["value"]) (g := g_is_small) F sc_is_small (fun cdv A outer s H E hr rc => by
    have hu := hr.units
    exact ⟨_, (dss_one (ds_ret (de_and (kde_callP K (k := 1) h_is_int (hr.mono (by decide)) (fun _ => RpAll.nil) (da_cons (de_var 0) da_nil)) (de_one (de_chain op_le s_le op_le s_le (DE.toB (m := false) (de_neg (DE.toB (m := false) (de_glob T.c_MOST_GIVEN)))) (db_var 0) (DE.toB (m := false) (de_glob T.c_MOST_GIVEN)))))))⟩)
  have b : Binds K fd ["value"] [] := F.bindsN fun _ _ _ _ _ _ us hl => match us, hl with | [_], _ => rfl
  exact ⟨_, fd, _, _, okP_of ok, T.g_is_small, F.kp, b, .nil⟩
end WK


namespace WK
open PySem PySem.Spec PyProof.Rows L2 DL PG
variable {P : Program} {w : World} {K : PySem.W.Frag} {mg : Str → Option Value} {base : Heap}
theorem ok_is_row (T : Top K mg) (h_is_small : Has P w K mg base "is_small" 2 [] (spP K F_is_small)) : Has P w K mg base "is_row" 3 [] (spP K F_is_row) := by
  obtain ⟨fd, F⟩ := T.d_is_row
  have ok := def_okG (P := P) (w := w) (mg := mg) (base := base) (k := 2) (N := N_is_row) (ps := ["value", "wide"]) (g := g_is_row) F sc_is_row (fun cdv A outer s H E hr rc => by
    have hu := hr.units
    exact ⟨_, (dss_one (ds_ret (de_and (kde_isi K (T := "tuple") (db_var 0) T.f_isinstance T.f_tuple (by decide +kernel)) (de_and (de_cmp (kop_eqD K hu) s_eq (DE.toB (m := false) (de_callB (kcall_len K) (kc_len K) (db_var 0) T.f_len PySem.boot_len)) (db_var 1)) (de_one (de_callB (kcr_all K rfl) c_all (DE.toB (m := false) (DF.toE (df_lc (own := [("one", 2)]) rfl sc_is_row.nd (kdi_seq K (db_var 0)) (blkOk_by (own := [("one", 2)]) (N := N_is_row) (sc := defScope s_is_row) (by decide +kernel)) (fun _ _ _ _ _ => (dg_name (i := 2) sc_is_row.nd (by decide))) (fun _ _ _ _ _ => dts_nil) (fun _ _ _ _ _ => (kde_callP K (k := 2) h_is_small (hr.mono (by decide)) (fun _ => RpAll.nil) (da_cons (de_var 2) da_nil)))))) T.f_all PyProof.Rows.boot_all))))))⟩)
  have b : Binds K fd ["value", "wide"] [] := F.bindsN fun _ _ _ _ _ _ us hl => match us, hl with | [_, _], _ => rfl
  exact ⟨_, fd, _, _, okP_of ok, T.g_is_row, F.kp, b, .nil⟩
end WK


namespace WK
open PySem PySem.Spec PyProof.Rows L2 DL PG
variable {P : Program} {w : World} {K : PySem.W.Frag} {mg : Str → Option Value} {base : Heap}
theorem ok_by_holding (T : Top K mg) (hM_Holder_done : HasM P w K mg base (He.ga K "Holder") "done" 40 (spM K (He.ga K "Holder") F_Holder_done)) (hI_Holder_init : HasI P w K mg base (He.ga K "Holder") 39 (spM K (He.ga K "Holder") F_Holder_init)) (hG_spread : Has P w K mg base "spread" 1 [] (spG K (runDef g_spread 3 6))) : Has P w K mg base "by_holding" 41 [] (spP K F_by_holding) := by
  obtain ⟨fd, F⟩ := T.d_by_holding
  obtain ⟨fi, fdi, psi, hFi, hMk, hBi⟩ := hI_Holder_init.ex
  have b : Binds K fd ["task", "share"] [] := F.bindsN fun _ _ _ _ _ _ us hl => match us, hl with | [_, _], _ => rfl
  have ok := mk_ok (P := P) (w := w) (mg := mg) (base := base) (C := He.ga K "Holder") (k := 40) (N := N_by_holding) (ps := ["task", "share"]) (g := g_by_holding) (Fi := F_Holder_init) (ta := tCons (tVar 0) (tCons (tVar 1) tNil)) F sc_by_holding (by decide) T.c_Holder (fun cdv A outer s H E hr => by
    have hu := hr.units
    have d : DHs (cxOf CX0 P w K mg base N_by_holding "by_holding" (defScope s_by_holding) (He.ga K "by_holding") cdv A outer s H E).nox (He.ga K "Holder") 2 ((defBody s_by_holding).drop 1) _ g_by_holding := (dhs_cons (dh_call0 (i0 := 2) (j := 3) (k := 40) sc_by_holding.nd hM_Holder_done T.c_Holder (hr.mono (by decide)) (by decide))
    (dhs_cons (dh_pure (ds_if (dt_notN (db_var 3)) (dss_one (ds_ret (de_tup (da_cons de_non (da_cons (de_var 3) da_nil))))) dss_nil))
    (dhs_one (dh_pure (ds_ret (de_tup (da_cons (de_callTy (kcall_tuple K) c_tuple (db_fld (m := false) K 2) T.f_tuple PyProof.Rows.boot_tuple) (da_cons (kde_callG K (k := 1) hG_spread (hr.mono (by decide)) (dr_cons (de_var 0) (dr_b (db_fld (m := false) K 2) (dr_b (db_fld (m := false) K 2) dr_nil)))) da_nil))))))))
    exact ⟨ps_set (i := 2) sc_by_holding.nd rfl (by first | exact Or.inl rfl | exact Or.inr rfl) (pe_make hMk hFi (hr.mono (by decide)) rfl T.g_Holder hBi .nil pass0 (pa_cons (pv 0) (pa_cons (pv 1) pa_nil))), _, d.ps, d.se⟩)
    (fun vs H Q hl q => match vs, hl with | [x, y], _ => ⟨x, rfl, y, rfl, q⟩)
  exact ⟨_, fd, _, _, ok, T.g_by_holding, F.kp, b, .nil⟩
end WK


namespace WK
open PySem PySem.Spec PyProof.Rows L2 DL PG
variable {P : Program} {w : World} {K : PySem.W.Frag} {mg : Str → Option Value} {base : Heap}
theorem ok_rising (T : Top K mg) (h_is_row : Has P w K mg base "is_row" 3 [] (spP K F_is_row)) (h_by_holding : Has P w K mg base "by_holding" 41 [] (spP K F_by_holding)) : Has P w K mg base "rising" 42 [] (spP K F_rising) := by
  obtain ⟨fd, F⟩ := T.d_rising
  have ok := def_okG (P := P) (w := w) (mg := mg) (base := base) (k := 41) (N := N_rising) (ps := ["values", "weights"]) (g := g_rising) F sc_rising (fun cdv A outer s H E hr rc => by
    have hu := hr.units
    exact ⟨_, (dss_cons (ds_if (DW.dt (dw_or (dt_not (dt_val (kde_isi K (T := "tuple") (db_var 0) T.f_isinstance T.f_tuple (by decide +kernel)))) (dw_or (dt_not (dt_chain op_le s_le op_le s_le (DE.toB (m := false) de_int) (DE.toB (m := false) (de_callB (kcall_len K) (kc_len K) (db_var 0) T.f_len PySem.boot_len)) (DE.toB (m := false) (de_glob T.c_MOST_WIDE)))) (dw_or1 (dt_not (dt_val (kde_callP K (k := 3) h_is_row (hr.mono (by decide)) (fun _ => RpAll.nil) (da_cons (de_var 0) (da_cons (de_callB (kcall_len K) (kc_len K) (db_var 0) T.f_len PySem.boot_len) da_nil))))))))) (dss_one ds_never) dss_nil)
    (dss_cons (ds_if (DW.dt (dw_or (dt_not (dt_val (kde_callP K (k := 3) h_is_row (hr.mono (by decide)) (fun _ => RpAll.nil) (da_cons (de_var 1) (da_cons (de_callB (kcall_len K) (kc_len K) (db_var 0) T.f_len PySem.boot_len) da_nil))))) (dw_or1 (dt_not (dt_val (de_callB (kcr_all K rfl) c_all (DE.toB (m := false) (DF.toE (df_lc (own := [("one", 7)]) rfl sc_rising.nd (kdi_seq K (db_var 1)) (blkOk_by (own := [("one", 7)]) (N := N_rising) (sc := defScope s_rising) (by decide +kernel)) (fun _ _ _ _ _ => (dg_name (i := 7) sc_rising.nd (by decide))) (fun _ _ _ _ _ => dts_nil) (fun _ _ _ _ _ => (de_cmp op_gt s_gt (db_var 7) (DE.toB (m := false) de_int)))))) T.f_all PyProof.Rows.boot_all)))))) (dss_one ds_never) dss_nil)
    (dss_cons (ds_set (i := 2) sc_rising.nd (de_callB (kcall_len K) (kc_len K) (db_var 0) T.f_len PySem.boot_len))
    (dss_cons (ds_set (i := 3) sc_rising.nd (de_callTy (kcall_tuple K) c_tuple (DE.toB (m := false) (DF.toE (df_lc (own := [("at", 5)]) rfl sc_rising.nd (di_range1 (m := false) T.f_range (de_var 2)) (blkOk_by (own := [("at", 5)]) (N := N_rising) (sc := defScope s_rising) (by decide +kernel)) (fun _ _ _ _ _ => (dg_name (i := 5) sc_rising.nd (by decide))) (fun _ _ _ _ _ => dts_nil) (fun _ _ _ _ _ => (de_callTy (kcall_tuple K) c_tuple (DE.toB (m := false) (DF.toE (df_lc (own := [("to", 8)]) rfl sc_rising.nd (di_range1 (m := false) T.f_range (de_var 2)) (blkOk_by (own := [("to", 8)]) rfl) (fun _ _ _ _ _ => (dg_name (i := 8) sc_rising.nd (by decide))) (fun _ _ _ _ _ => dts_nil) (fun _ _ _ _ _ => (de_if (dt_cmp (kop_eqD K hu) s_eq (db_var 5) (db_var 8)) (kde_ix K (db_var 1) (db_var 5)) de_int))))) T.f_tuple PyProof.Rows.boot_tuple))))) T.f_tuple PyProof.Rows.boot_tuple))
    (dss_cons (ds_setO (i := 4) sc_rising.nd (df_lst da_nil))
    (dss_cons (ds_for (vs := [5]) PassesOwn.never rfl (di_range1 (m := true) T.f_range (de_op op_sub s_sub (db_var 2) (DE.toB (m := false) de_int))) (dg_name (i := 5) sc_rising.nd (by decide)) (dss_one (kds_append (i := 4) (de_tup (da_cons (de_callTy (kcall_tuple K) c_tuple (DE.toB (m := false) (DF.toE (df_lc (own := [("to", 8)]) rfl sc_rising.nd (di_range1 (m := false) T.f_range (de_var 2)) (blkOk_by (own := [("to", 8)]) (N := N_rising) (sc := defScope s_rising) (by decide +kernel)) (fun _ _ _ _ _ => (dg_name (i := 8) sc_rising.nd (by decide))) (fun _ _ _ _ _ => dts_nil) (fun _ _ _ _ _ => (de_if (dt_cmp (kop_eqD K hu) s_eq (db_var 8) (DE.toB (m := false) (de_op op_add s_add (db_var 5) (DE.toB (m := false) de_int)))) de_int (de_if (dt_cmp (kop_eqD K hu) s_eq (db_var 8) (db_var 5)) (de_neg (DE.toB (m := false) de_int)) de_int)))))) T.f_tuple PyProof.Rows.boot_tuple) (da_cons de_int (da_cons de_int da_nil)))))))
    (dss_cons (ds_set (i := 6) sc_rising.nd (de_callTy (kcall_tuple K) c_tuple (DE.toB (m := false) (DF.toE (df_lc (own := [("one", 7), ("other", 9)]) rfl sc_rising.nd (kdi_zip2 K T.f_zip (db_var 0) (db_var 1)) (blkOk_by (own := [("one", 7), ("other", 9)]) (N := N_rising) (sc := defScope s_rising) (by decide +kernel)) (fun _ _ _ _ _ => (kdg_tup K rfl (dgs_cons (dg_name (i := 7) sc_rising.nd (by decide)) (dgs_cons (dg_name (i := 9) sc_rising.nd (by decide)) dgs_nil)))) (fun _ _ _ _ _ => dts_nil) (fun _ _ _ _ _ => (de_op op_mulM s_mul (DE.toB (m := false) (de_neg (db_var 7))) (db_var 9)))))) T.f_tuple PyProof.Rows.boot_tuple))
    (dss_one (ds_ret (kde_ix K (DE.toB (m := false) (kde_callP K (k := 41) h_by_holding (hr.mono (by decide)) (fun _ => RpAll.nil) (da_cons (de_tup (da_cons (de_var 3) (da_cons (de_var 6) (da_cons (de_op (kop_repT2 K) s_repT2 (DE.toB (m := false) (de_tup (da_cons de_int da_nil))) (db_var 2)) (da_cons (de_callTy (kcall_tuple K) c_tuple (db_var 4) T.f_tuple PyProof.Rows.boot_tuple) da_nil))))) (da_cons (de_glob T.c_NOUGHT) da_nil)))) (DE.toB (m := false) de_int)))))))))))⟩)
  have b : Binds K fd ["values", "weights"] [] := F.bindsN fun _ _ _ _ _ _ us hl => match us, hl with | [_, _], _ => rfl
  exact ⟨_, fd, _, _, okP_of ok, T.g_rising, F.kp, b, .nil⟩
end WK


namespace WK
open PySem PySem.Spec PyProof.Rows L2 DL PG
variable {P : Program} {w : World} {K : PySem.W.Frag} {mg : Str → Option Value} {base : Heap}
theorem ok_law_taken (T : Top K mg) (hS : base.NoSeer) (ht : P.given.tree = none)  : Has P w K mg base "_law_taken" 34 [] (spG K F_law_taken) := by
  obtain ⟨fd, F⟩ := T.d_law_taken
  have ok := def_okG (P := P) (w := w) (mg := mg) (base := base) (k := 33) (N := N_law_taken) (ps := ["_law_row", "_law_many"]) (g := g_law_taken) F sc_law_taken (fun cdv A outer s H E hr rc => by
    have hpy : PylongAt (cxOf CX0 P w K mg base N_law_taken "_law_taken" (defScope s_law_taken) (He.ga K "_law_taken") cdv A outer s H E).nox := pylong_of hS ht rfl rfl rfl rfl rfl hr (by decide); have hu := hr.units
    exact ⟨_, (dss_cons (ds_if (dt_cmp op_gt s_gt (DE.toB (m := false) (de_rowI (i := 0) (j := 3))) (DE.toB (m := false) de_int)) (dss_cons (ds_set (i := 2) sc_law_taken.nd (de_op op_modN s_mod (DE.toB (m := false) (de_callTy call_int1 c_int (DE.toB (m := false) (de_rowI (i := 0) (j := 3))) T.f_int PyProof.Rows.boot_int)) (db_var 1)))
    (dss_cons (ds_rowSet (i := 0) (j := 3) (de_op (op_divP hpy) s_div (DE.toB (m := false) (de_rowI (i := 0) (j := 3))) (db_var 1)))
    (dss_one (ds_ret (de_var 2))))) dss_nil)
    (dss_cons (ds_rowSet (i := 0) (j := 1) (de_op op_add s_add (DE.toB (m := false) (de_rowI (i := 0) (j := 1))) (DE.toB (m := false) de_int)))
    (dss_cons (ds_if (dt_cmp op_gt s_gt (DE.toB (m := false) (de_rowI (i := 0) (j := 1))) (DE.toB (m := false) (de_rowLen (i := 0) T.f_len))) (dss_cons (ds_rowSet (i := 0) (j := 2) (de_op op_modN s_mod (DE.toB (m := false) (de_callTy call_int1 c_int (DE.toB (m := false) (de_op op_add s_add (DE.toB (m := false) (de_op op_mulM s_mul (DE.toB (m := false) (de_rowI (i := 0) (j := 2))) (DE.toB (m := false) de_int))) (DE.toB (m := false) de_int))) T.f_int PyProof.Rows.boot_int)) (DE.toB (m := false) de_int)))
    (dss_one (ds_ret (de_op op_modN s_mod (DE.toB (m := false) (de_callTy call_int1 c_int (DE.toB (m := false) (de_op (op_divP hpy) s_div (DE.toB (m := false) (de_rowI (i := 0) (j := 2))) (DE.toB (m := false) de_int))) T.f_int PyProof.Rows.boot_int)) (db_var 1))))) dss_nil)
    (dss_cons (ds_set (i := 3) sc_law_taken.nd (de_rowCell (i := 0) (de_op op_sub s_sub (DE.toB (m := false) (de_rowI (i := 0) (j := 1))) (DE.toB (m := false) de_int))))
    (dss_cons (ds_rowSet (i := 0) (j := 2) (de_op op_modN s_mod (DE.toB (m := false) (de_callTy call_int1 c_int (DE.toB (m := false) (de_op op_add s_add (DE.toB (m := false) (de_op op_add s_add (DE.toB (m := false) (de_op op_mulM s_mul (DE.toB (m := false) (de_rowI (i := 0) (j := 2))) (DE.toB (m := false) de_int))) (db_var 3))) (DE.toB (m := false) de_int))) T.f_int PyProof.Rows.boot_int)) (DE.toB (m := false) de_int)))
    (dss_cons (ds_if (dt_cmp op_ge s_ge (db_var 3) (DE.toB (m := false) (de_op op_pow s_pow (DE.toB (m := false) de_int) (DE.toB (m := false) de_int)))) (dss_one (ds_rowSet (i := 0) (j := 3) (de_op (op_divP hpy) s_div (db_var 3) (db_var 1)))) dss_nil)
    (dss_one (ds_ret (de_op op_modN s_mod (DE.toB (m := false) (de_callTy call_int1 c_int (db_var 3) T.f_int PyProof.Rows.boot_int)) (db_var 1))))))))))⟩)
  have b : Binds K fd ["_law_row", "_law_many"] [] := F.bindsN fun _ _ _ _ _ _ us hl => match us, hl with | [_, _], _ => rfl
  exact ⟨_, fd, _, _, ok, T.g_law_taken, F.kp, b, .nil⟩
end WK


namespace WK
open PySem PySem.Spec PyProof.Rows L2 DL PG
variable {P : Program} {w : World} {K : PySem.W.Frag} {mg : Str → Option Value} {base : Heap}
theorem ok_law_pick (T : Top K mg) (h_law_taken : Has P w K mg base "_law_taken" 34 [] (spG K F_law_taken)) : Has P w K mg base "_law_pick" 35 [] (spG K F_law_pick) := by
  obtain ⟨fd, F⟩ := T.d_law_pick
  have ok := def_okG (P := P) (w := w) (mg := mg) (base := base) (k := 34) (N := N_law_pick) (ps := ["_law_row", "_law_things"]) (g := g_law_pick) F sc_law_pick (fun cdv A outer s H E hr rc => by
    have hu := hr.units
    exact ⟨_, (dss_one (ds_ret (kde_ix K (db_var 1) (DE.toB (m := false) (kde_callG K (k := 34) h_law_taken (hr.mono (by decide)) (dr_row (i := 0) (dr_cons (de_callB (kcall_len K) (kc_len K) (db_var 1) T.f_len PySem.boot_len) dr_nil)))))))⟩)
  have b : Binds K fd ["_law_row", "_law_things"] [] := F.bindsN fun _ _ _ _ _ _ us hl => match us, hl with | [_, _], _ => rfl
  exact ⟨_, fd, _, _, ok, T.g_law_pick, F.kp, b, .nil⟩
end WK


namespace WK
open PySem PySem.Spec PyProof.Rows L2 DL PG
variable {P : Program} {w : World} {K : PySem.W.Frag} {mg : Str → Option Value} {base : Heap}
theorem okr_law_alike (T : Top K mg)  : ∀ k, Has P w K mg base "_law_alike" (1 + k) [] (spP K (F_law_alike_ k)) := by
  obtain ⟨fd, F⟩ := T.d_law_alike
  have b : Binds K fd ["_law_found", "_law_due"] [] := F.bindsN fun _ _ _ _ _ _ us hl => match us, hl with | [_, _], _ => rfl
  intro k
  induction k with
  | zero => exact ⟨_, fd, _, _, ⟨fun vs H Q E h => (no_spP h).elim, fun _ _ _ _ _ _ _ _ _ _ _ _ _ h => (no_spP h).elim⟩, T.g_law_alike, F.kp, b, .nil⟩
  | succ k ih =>
    have ok := def_okG (P := P) (w := w) (mg := mg) (base := base) (k := 1 + k) (N := N_law_alike) (ps := ["_law_found", "_law_due"]) (g := (g_law_alike (F_law_alike_ k))) F sc_law_alike (fun cdv A outer s H E hr rc => by
      have hu := hr.units
      exact ⟨_, (dss_cons (ds_if (dt_val (kde_isiTL K (db_var 1) T.f_isinstance T.f_tuple T.f_list)) (dss_cons (ds_if (DW.dt (dw_or (dt_not (dt_val (kde_isiTL K (db_var 0) T.f_isinstance T.f_tuple T.f_list))) (dw_or1 (dt_cmp (kop_neD K hu) s_ne (DE.toB (m := false) (kde_isi K (T := "list") (db_var 0) T.f_isinstance T.f_list (by decide +kernel))) (DE.toB (m := false) (kde_isi K (T := "list") (db_var 1) T.f_isinstance T.f_list (by decide +kernel))))))) (dss_one (ds_ret de_bl)) dss_nil)
      (dss_cons (ds_if (dt_cmp (kop_neD K hu) s_ne (DE.toB (m := false) (de_callB (kcall_len K) (kc_len K) (db_var 0) T.f_len PySem.boot_len)) (DE.toB (m := false) (de_callB (kcall_len K) (kc_len K) (db_var 1) T.f_len PySem.boot_len))) (dss_one (ds_ret de_bl)) dss_nil)
      (dss_one (ds_ret (de_cmp (kop_eqD K hu) s_eq (DE.toB (m := false) (DF.toE (df_lc (own := [("_law_k", 2)]) rfl sc_law_alike.nd (di_range1 (m := false) T.f_range (de_callB (kcall_len K) (kc_len K) (db_var 1) T.f_len PySem.boot_len)) (blkOk_by (own := [("_law_k", 2)]) (N := N_law_alike) (sc := defScope s_law_alike) (by decide +kernel)) (fun _ _ _ _ _ => (dg_name (i := 2) sc_law_alike.nd (by decide))) (fun _ _ _ _ _ => (dts_one (dt_not (dt_val (kde_callP K (k := 1 + k) ih (hr.mono (by omega)) (fun _ => RpAll.nil) (da_cons (kde_ix K (db_var 0) (db_var 2)) (da_cons (kde_ix K (db_var 1) (db_var 2)) da_nil))))))) (fun _ _ _ _ _ => (de_var 2))))) (DE.toB (m := false) (DF.toE (df_lst da_nil)))))))) dss_nil)
      (dss_cons (ds_if (DW.dt (dw_or (dt_isN (db_var 1)) (dw_or1 (dt_val (kde_isi K (T := "str") (db_var 1) T.f_isinstance T.f_str (by decide +kernel)))))) (dss_one (ds_ret (de_and (de_cmp (kop_eqD K hu) s_eq (db_var 0) (db_var 1)) (de_one (de_cmp (kop_eqD K hu) s_eq (DE.toB (m := false) (kde_isi K (T := "str") (db_var 0) T.f_isinstance T.f_str (by decide +kernel))) (DE.toB (m := false) (kde_isi K (T := "str") (db_var 1) T.f_isinstance T.f_str (by decide +kernel)))))))) dss_nil)
      (dss_one (ds_ret (de_and (kde_isi K (T := "int") (db_var 0) T.f_isinstance T.f_int (by decide +kernel)) (de_and (de_cmp (kop_eqD K hu) s_eq (DE.toB (m := false) (kde_isi K (T := "bool") (db_var 0) T.f_isinstance T.f_bool (by decide +kernel))) (DE.toB (m := false) (kde_isi K (T := "bool") (db_var 1) T.f_isinstance T.f_bool (by decide +kernel)))) (de_one (de_cmp (kop_eqD K hu) s_eq (db_var 0) (db_var 1)))))))))⟩)
    exact ⟨_, fd, _, _, okP_of ok, T.g_law_alike, F.kp, b, .nil⟩
theorem ok_law_alike (T : Top K mg)  : Has P w K mg base "_law_alike" 9 [] (spP K F_law_alike) := okr_law_alike T  8

end WK


namespace WK
open PySem PySem.Spec PyProof.Rows L2 DL PG
variable {P : Program} {w : World} {K : PySem.W.Frag} {mg : Str → Option Value} {base : Heap}
theorem ok_law_fr (T : Top K mg) (hS : base.NoSeer) (ht : P.given.tree = none)  : Has P w K mg base "_law_fr" 34 [] (spP K F_law_fr) := by
  obtain ⟨fd, F⟩ := T.d_law_fr
  have ok := def_okG (P := P) (w := w) (mg := mg) (base := base) (k := 33) (N := N_law_fr) (ps := ["_law_top", "_law_low"]) (g := g_law_fr) F sc_law_fr (fun cdv A outer s H E hr rc => by
    have hpy : PylongAt (cxOf CX0 P w K mg base N_law_fr "_law_fr" (defScope s_law_fr) (He.ga K "_law_fr") cdv A outer s H E).nox := pylong_of hS ht rfl rfl rfl rfl rfl hr (by decide); have hu := hr.units
    exact ⟨_, (dss_cons (ds_par (i := 2) (j := 3) rfl sc_law_fr.nd (DE.v (de_callB2 (call_max2 rfl) c_max2 (db_var 0) (DE.toB (m := false) (de_op op_sub s_sub (DE.toB (m := false) de_int) (db_var 0))) T.f_max PyProof.Rows.boot_max)) (DE.v (de_callB2 (call_max2 rfl) c_max2 (db_var 1) (DE.toB (m := false) (de_op op_sub s_sub (DE.toB (m := false) de_int) (db_var 1))) T.f_max PyProof.Rows.boot_max)) (by decide))
    (dss_cons (ds_while fuel_law_fr PassesOwn.never (dt_cmp (kop_neD K hu) s_ne (db_var 3) (DE.toB (m := false) de_int)) (dss_one (ds_par (i := 2) (j := 3) rfl sc_law_fr.nd (DE.v (de_var 3)) (DE.v (de_op op_modN s_mod (db_var 2) (db_var 3))) (by decide))))
    (dss_cons (ds_set (i := 2) sc_law_fr.nd (de_if (dt_cmp op_gt s_gt (db_var 1) (DE.toB (m := false) de_int)) (de_var 2) (de_op op_sub s_sub (DE.toB (m := false) de_int) (db_var 2))))
    (dss_one (ds_ret (de_tup (da_cons (de_op (op_divP hpy) s_div (db_var 0) (db_var 2)) (da_cons (de_op (op_divP hpy) s_div (db_var 1) (db_var 2)) da_nil))))))))⟩)
  have b : Binds K fd ["_law_top", "_law_low"] [] := F.bindsN fun _ _ _ _ _ _ us hl => match us, hl with | [_, _], _ => rfl
  exact ⟨_, fd, _, _, okP_of ok, T.g_law_fr, F.kp, b, .nil⟩
end WK


namespace WK
open PySem PySem.Spec PyProof.Rows L2 DL PG
variable {P : Program} {w : World} {K : PySem.W.Frag} {mg : Str → Option Value} {base : Heap}
theorem ok_law_plus (T : Top K mg) (h_law_fr : Has P w K mg base "_law_fr" 34 [] (spP K F_law_fr)) : Has P w K mg base "_law_plus" 35 [] (spP K F_law_plus) := by
  obtain ⟨fd, F⟩ := T.d_law_plus
  have ok := def_okG (P := P) (w := w) (mg := mg) (base := base) (k := 34) (N := N_law_plus) (ps := ["_law_one", "_law_other"]) (g := g_law_plus) F sc_law_plus (fun cdv A outer s H E hr rc => by
    have hu := hr.units
    exact ⟨_, (dss_one (ds_ret (kde_callP K (k := 34) h_law_fr (hr.mono (by decide)) (fun _ => RpAll.nil) (da_cons (de_op op_add s_add (DE.toB (m := false) (de_op op_mulM s_mul (DE.toB (m := false) (kde_ix K (db_var 0) (DE.toB (m := false) de_int))) (DE.toB (m := false) (kde_ix K (db_var 1) (DE.toB (m := false) de_int))))) (DE.toB (m := false) (de_op op_mulM s_mul (DE.toB (m := false) (kde_ix K (db_var 1) (DE.toB (m := false) de_int))) (DE.toB (m := false) (kde_ix K (db_var 0) (DE.toB (m := false) de_int)))))) (da_cons (de_op op_mulM s_mul (DE.toB (m := false) (kde_ix K (db_var 0) (DE.toB (m := false) de_int))) (DE.toB (m := false) (kde_ix K (db_var 1) (DE.toB (m := false) de_int)))) da_nil)))))⟩)
  have b : Binds K fd ["_law_one", "_law_other"] [] := F.bindsN fun _ _ _ _ _ _ us hl => match us, hl with | [_, _], _ => rfl
  exact ⟨_, fd, _, _, okP_of ok, T.g_law_plus, F.kp, b, .nil⟩
end WK


namespace WK
open PySem PySem.Spec PyProof.Rows L2 DL PG
variable {P : Program} {w : World} {K : PySem.W.Frag} {mg : Str → Option Value} {base : Heap}
theorem ok_law_below (T : Top K mg)  : Has P w K mg base "_law_below" 1 [] (spP K F_law_below) := by
  obtain ⟨fd, F⟩ := T.d_law_below
  have ok := def_okG (P := P) (w := w) (mg := mg) (base := base) (k := 0) (N := N_law_below) (ps := ["_law_one", "_law_other"]) (g := g_law_below) F sc_law_below (fun cdv A outer s H E hr rc => by
    have hu := hr.units
    exact ⟨_, (dss_one (ds_ret (de_cmp op_lt s_lt (DE.toB (m := false) (de_op op_mulM s_mul (DE.toB (m := false) (kde_ix K (db_var 0) (DE.toB (m := false) de_int))) (DE.toB (m := false) (kde_ix K (db_var 1) (DE.toB (m := false) de_int))))) (DE.toB (m := false) (de_op op_mulM s_mul (DE.toB (m := false) (kde_ix K (db_var 1) (DE.toB (m := false) de_int))) (DE.toB (m := false) (kde_ix K (db_var 0) (DE.toB (m := false) de_int))))))))⟩)
  have b : Binds K fd ["_law_one", "_law_other"] [] := F.bindsN fun _ _ _ _ _ _ us hl => match us, hl with | [_, _], _ => rfl
  exact ⟨_, fd, _, _, okP_of ok, T.g_law_below, F.kp, b, .nil⟩
end WK


namespace WK
open PySem PySem.Spec PyProof.Rows L2 DL PG
variable {P : Program} {w : World} {K : PySem.W.Frag} {mg : Str → Option Value} {base : Heap}
theorem ok_law_number (T : Top K mg) (h_law_taken : Has P w K mg base "_law_taken" 34 [] (spG K F_law_taken)) : Has P w K mg base "_law_number" 35 [] (spG K F_law_number) := by
  obtain ⟨fd, F⟩ := T.d_law_number
  have ok := def_okG (P := P) (w := w) (mg := mg) (base := base) (k := 34) (N := N_law_number) (ps := ["_law_row", "_law_size"]) (g := g_law_number) F sc_law_number (fun cdv A outer s H E hr rc => by
    have hu := hr.units
    exact ⟨_, (dss_one (ds_ret (de_op op_sub s_sub (DE.toB (m := false) (kde_callG K (k := 34) h_law_taken (hr.mono (by decide)) (dr_row (i := 0) (dr_cons (de_op op_add s_add (DE.toB (m := false) (de_op op_mulM s_mul (DE.toB (m := false) de_int) (db_var 1))) (DE.toB (m := false) de_int)) dr_nil)))) (db_var 1))))⟩)
  have b : Binds K fd ["_law_row", "_law_size"] [] := F.bindsN fun _ _ _ _ _ _ us hl => match us, hl with | [_, _], _ => rfl
  exact ⟨_, fd, _, _, ok, T.g_law_number, F.kp, b, .nil⟩
end WK


namespace WK
open PySem PySem.Spec PyProof.Rows L2 DL PG
variable {P : Program} {w : World} {K : PySem.W.Frag} {mg : Str → Option Value} {base : Heap}
theorem ok_law {fd : FuncData} (T : Top K mg) (F : FunD K "law" "law" (defArgs s_law) (defBody s_law) (defScope s_law) [] [] (He.ga K "law") fd) (h_law_taken : Has P w K mg base "_law_taken" 34 [] (spG K F_law_taken)) (h_law_pick : Has P w K mg base "_law_pick" 35 [] (spG K F_law_pick)) (h_law_number : Has P w K mg base "_law_number" 35 [] (spG K F_law_number)) (h_law_fr : Has P w K mg base "_law_fr" 34 [] (spP K F_law_fr)) (h_law_below : Has P w K mg base "_law_below" 1 [] (spP K F_law_below)) (h_law_alike : Has P w K mg base "_law_alike" 9 [] (spP K F_law_alike)) (h_rising : Has P w K mg base "rising" 42 [] (spP K F_rising)) (h_law_plus : Has P w K mg base "_law_plus" 35 [] (spP K F_law_plus)) : FnOk P w K mg base CX0 43 (He.ga K "law") fd ["_law_script"] (spLaw K 5805 g_law 19) := by
  refine law_okG (sd := 5805) (P := P) (w := w) (mg := mg) (base := base) (k := 42) (N := N_law) (p1 := "_law_script") (p2 := "_law_script") (ns := ["_law_many", "_law_size", "_law_values", "_law_weights", "_law_due", "_law_at", "_law_best", "_law_low", "_law_least", "_law_high", "_law_top", "_law_mean", "_law_same", "_law_more", "_law_moved", "_law_k", "_law_one"]) (g := g_law) F sc_law rfl (fun cdv A outer s H E hr => ⟨ps_set (i := 1) sc_law.nd rfl (by first | exact Or.inl rfl | exact Or.inr rfl) (pe_lst (pa_cons (pv 0) (pa_cons pe_int (pa_cons pe_int (pa_cons pe_int pa_nil))))), ?_⟩)
  have hu := hr.units
  exact ⟨_, fun rc => (dss_cons (ds_set (i := 2) sc_law.nd (de_op op_add s_add (DE.toB (m := false) de_int) (DE.toB (m := false) (kde_callG K (k := 34) h_law_taken (hr.mono (by decide)) (dr_row (i := 1) (dr_cons de_int dr_nil))))))
    (dss_cons (ds_set (i := 3) sc_law.nd (kde_callG K (k := 35) h_law_pick (hr.mono (by decide)) (dr_row (i := 1) (dr_cons (DF.toE (df_lst (da_cons de_int (da_cons de_int (da_cons de_int da_nil))))) dr_nil))))
    (dss_cons (ds_set (i := 4) sc_law.nd (de_callTy (kcall_tuple K) c_tuple (DE.toB (m := false) (DF.toE (df_lc (own := [("_law_at", 7)]) rfl sc_law.nd (di_range1 (m := false) T.f_range (de_var 2)) (blkOk_by (own := [("_law_at", 7)]) (N := N_law) (sc := defScope s_law) (by decide +kernel)) (fun _ _ _ _ _ => (dg_name (i := 7) sc_law.nd (by decide))) (fun _ _ _ _ _ => dts_nil) (fun _ _ _ _ _ => (kde_callG K (k := 35) h_law_number (hr.mono (by decide)) (dr_row (i := 1) (dr_cons (de_var 3) dr_nil))))))) T.f_tuple PyProof.Rows.boot_tuple))
    (dss_cons (ds_set (i := 5) sc_law.nd (de_callTy (kcall_tuple K) c_tuple (DE.toB (m := false) (DF.toE (df_lc (own := [("_law_at", 7)]) rfl sc_law.nd (di_range1 (m := false) T.f_range (de_var 2)) (blkOk_by (own := [("_law_at", 7)]) (N := N_law) (sc := defScope s_law) (by decide +kernel)) (fun _ _ _ _ _ => (dg_name (i := 7) sc_law.nd (by decide))) (fun _ _ _ _ _ => dts_nil) (fun _ _ _ _ _ => (de_op op_add s_add (DE.toB (m := false) de_int) (DE.toB (m := false) (kde_callG K (k := 34) h_law_taken (hr.mono (by decide)) (dr_row (i := 1) (dr_cons de_int dr_nil))))))))) T.f_tuple PyProof.Rows.boot_tuple))
    (dss_cons (ds_setO (i := 6) sc_law.nd (df_lst da_nil))
    (dss_cons (ds_for (vs := [7]) PassesOwn.never rfl (di_range1 (m := true) T.f_range (de_var 2)) (dg_name (i := 7) sc_law.nd (by decide)) (dss_cons (ds_set (i := 8) sc_law.nd de_non)
    (dss_cons (ds_for (vs := [9]) PassesOwn.never rfl (di_range1 (m := true) T.f_range (de_op op_add s_add (db_var 7) (DE.toB (m := false) de_int))) (dg_name (i := 9) sc_law.nd (by decide)) (dss_cons (ds_set (i := 10) sc_law.nd de_non)
    (dss_cons (ds_for (vs := [11]) PassesOwn.never rfl (di_range2 (m := true) T.f_range (de_var 7) (de_var 2)) (dg_name (i := 11) sc_law.nd (by decide)) (dss_cons (ds_set (i := 12) sc_law.nd (de_callB (kcr_sum K rfl) c_sum (DE.toB (m := false) (DF.toE (df_lc (own := [("_law_k", 17)]) rfl sc_law.nd (di_range2 (m := false) T.f_range (de_var 9) (de_op op_add s_add (db_var 11) (DE.toB (m := false) de_int))) (blkOk_by (own := [("_law_k", 17)]) (N := N_law) (sc := defScope s_law) (by decide +kernel)) (fun _ _ _ _ _ => (dg_name (i := 17) sc_law.nd (by decide))) (fun _ _ _ _ _ => dts_nil) (fun _ _ _ _ _ => (de_op op_mulM s_mul (DE.toB (m := false) (kde_ix K (db_var 4) (db_var 17))) (DE.toB (m := false) (kde_ix K (db_var 5) (db_var 17)))))))) T.f_sum PyProof.Rows.boot_sum))
    (dss_cons (ds_set (i := 13) sc_law.nd (kde_callP K (k := 34) h_law_fr (hr.mono (by decide)) (fun _ => RpAll.nil) (da_cons (de_var 12) (da_cons (de_callB (kcr_sum K rfl) c_sum (DE.toB (m := false) (kde_slice K (db_var 5) (do_some (de_var 9)) (do_some (de_op op_add s_add (db_var 11) (DE.toB (m := false) de_int))))) T.f_sum PyProof.Rows.boot_sum) da_nil))))
    (dss_one (ds_set (i := 10) sc_law.nd (de_if (DW.dt (dw_or (dt_isN (db_var 10)) (dw_or1 (dt_val (kde_callP K (k := 1) h_law_below (hr.mono (by decide)) (fun _ => RpAll.nil) (da_cons (de_var 13) (da_cons (de_var 10) da_nil))))))) (de_var 13) (de_var 10)))))))
    (dss_one (ds_set (i := 8) sc_law.nd (de_if (DW.dt (dw_or (dt_isN (db_var 8)) (dw_or1 (dt_val (kde_callP K (k := 1) h_law_below (hr.mono (by decide)) (fun _ => RpAll.nil) (da_cons (de_var 8) (da_cons (de_var 10) da_nil))))))) (de_var 10) (de_var 8)))))))
    (dss_one (kds_append (i := 6) (de_var 8))))))
    (dss_cons (ds_if (dt_not (dt_val (kde_callP K (k := 9) h_law_alike (hr.mono (by decide)) (fun _ => RpAll.nil) (da_cons (kde_callP K (k := 42) h_rising (hr.mono (by decide)) (fun _ => RpAll.nil) (da_cons (de_var 4) (da_cons (de_var 5) da_nil))) (da_cons (de_callTy (kcall_tuple K) c_tuple (db_var 6) T.f_tuple PyProof.Rows.boot_tuple) da_nil))))) (dss_one (ds_ret de_bl)) dss_nil)
    (dss_cons (ds_set (i := 14) sc_law.nd (kde_callP K (k := 42) h_rising (hr.mono (by decide)) (fun _ => RpAll.nil) (da_cons (de_callTy (kcall_tuple K) c_tuple (DE.toB (m := false) (de_callB (kcr_sortT K) c_sortT (db_var 4) T.f_sorted PyProof.Rows.boot_sorted)) T.f_tuple PyProof.Rows.boot_tuple) (da_cons (de_var 5) da_nil))))
    (dss_cons (ds_if (dt_cmp (kop_neD K hu) s_ne (db_var 14) (DE.toB (m := false) (de_callTy (kcall_tuple K) c_tuple (DE.toB (m := false) (DF.toE (df_lc (own := [("_law_one", 18)]) rfl sc_law.nd (kdi_seq K (DE.toB (m := false) (de_callB (kcr_sortT K) c_sortT (db_var 4) T.f_sorted PyProof.Rows.boot_sorted))) (blkOk_by (own := [("_law_one", 18)]) (N := N_law) (sc := defScope s_law) (by decide +kernel)) (fun _ _ _ _ _ => (dg_name (i := 18) sc_law.nd (by decide))) (fun _ _ _ _ _ => dts_nil) (fun _ _ _ _ _ => (de_tup (da_cons (de_var 18) (da_cons de_int da_nil))))))) T.f_tuple PyProof.Rows.boot_tuple))) (dss_one (ds_ret de_bl)) dss_nil)
    (dss_cons (ds_set (i := 15) sc_law.nd (kde_callG K (k := 35) h_law_number (hr.mono (by decide)) (dr_row (i := 1) (dr_cons de_int dr_nil))))
    (dss_cons (ds_set (i := 16) sc_law.nd (kde_callP K (k := 42) h_rising (hr.mono (by decide)) (fun _ => RpAll.nil) (da_cons (de_callTy (kcall_tuple K) c_tuple (DE.toB (m := false) (DF.toE (df_lc (own := [("_law_one", 18)]) rfl sc_law.nd (kdi_seq K (db_var 4)) (blkOk_by (own := [("_law_one", 18)]) (N := N_law) (sc := defScope s_law) (by decide +kernel)) (fun _ _ _ _ _ => (dg_name (i := 18) sc_law.nd (by decide))) (fun _ _ _ _ _ => dts_nil) (fun _ _ _ _ _ => (de_op op_add s_add (db_var 18) (db_var 15)))))) T.f_tuple PyProof.Rows.boot_tuple) (da_cons (de_callTy (kcall_tuple K) c_tuple (DE.toB (m := false) (DF.toE (df_lc (own := [("_law_one", 18)]) rfl sc_law.nd (kdi_seq K (db_var 5)) (blkOk_by (own := [("_law_one", 18)]) (N := N_law) (sc := defScope s_law) (by decide +kernel)) (fun _ _ _ _ _ => (dg_name (i := 18) sc_law.nd (by decide))) (fun _ _ _ _ _ => dts_nil) (fun _ _ _ _ _ => (de_op op_mulM s_mul (DE.toB (m := false) de_int) (db_var 18)))))) T.f_tuple PyProof.Rows.boot_tuple) da_nil))))
    (dss_one (ds_ret (de_cmp (kop_eqD K hu) s_eq (db_var 16) (DE.toB (m := false) (de_callTy (kcall_tuple K) c_tuple (DE.toB (m := false) (DF.toE (df_lc (own := [("_law_one", 18)]) rfl sc_law.nd (kdi_seq K (db_var 6)) (blkOk_by (own := [("_law_one", 18)]) (N := N_law) (sc := defScope s_law) (by decide +kernel)) (fun _ _ _ _ _ => (dg_name (i := 18) sc_law.nd (by decide))) (fun _ _ _ _ _ => dts_nil) (fun _ _ _ _ _ => (kde_callP K (k := 35) h_law_plus (hr.mono (by decide)) (fun _ => RpAll.nil) (da_cons (de_var 18) (da_cons (de_tup (da_cons (de_var 15) (da_cons de_int da_nil))) da_nil))))))) T.f_tuple PyProof.Rows.boot_tuple))))))))))))))))⟩

end WK

set_option maxHeartbeats 0
namespace WK
open PySem PySem.Spec PyProof.Rows L2 DL
def dd_is_int : He.DefD := ⟨("is_int", none), "is_int", "is_int", defArgs (top 5), defBody (top 5), defScope (top 5), [], []⟩
def dd_common : He.DefD := ⟨("common", none), "common", "common", defArgs (top 6), defBody (top 6), defScope (top 6), [], []⟩
def dd_fraction : He.DefD := ⟨("fraction", none), "fraction", "fraction", defArgs (top 7), defBody (top 7), defScope (top 7), [], []⟩
def dd_plus : He.DefD := ⟨("plus", none), "plus", "plus", defArgs (top 8), defBody (top 8), defScope (top 8), [], []⟩
def dd_less : He.DefD := ⟨("less", none), "less", "less", defArgs (top 9), defBody (top 9), defScope (top 9), [], []⟩
def dd_times : He.DefD := ⟨("times", none), "times", "times", defArgs (top 10), defBody (top 10), defScope (top 10), [], []⟩
def dd_over : He.DefD := ⟨("over", none), "over", "over", defArgs (top 11), defBody (top 11), defScope (top 11), [], []⟩
def dd_is_below : He.DefD := ⟨("is_below", none), "is_below", "is_below", defArgs (top 12), defBody (top 12), defScope (top 12), [], []⟩
def dd_added : He.DefD := ⟨("added", none), "added", "added", defArgs (top 13), defBody (top 13), defScope (top 13), [.adr (He.dflAt ("added", none) 0)], []⟩
def dd_inner : He.DefD := ⟨("inner", none), "inner", "inner", defArgs (top 14), defBody (top 14), defScope (top 14), [], []⟩
def dd_solved : He.DefD := ⟨("solved", none), "solved", "solved", defArgs (top 15), defBody (top 15), defScope (top 15), [], []⟩
def dd_is_small : He.DefD := ⟨("is_small", none), "is_small", "is_small", defArgs (top 19), defBody (top 19), defScope (top 19), [], []⟩
def dd_is_row : He.DefD := ⟨("is_row", none), "is_row", "is_row", defArgs (top 20), defBody (top 20), defScope (top 20), [], []⟩
def dd_costs_at : He.DefD := ⟨("costs_at", none), "costs_at", "costs_at", defArgs (top 21), defBody (top 21), defScope (top 21), [], []⟩
def dd_rights_at : He.DefD := ⟨("rights_at", none), "rights_at", "rights_at", defArgs (top 22), defBody (top 22), defScope (top 22), [], []⟩
def dd_gaps_of : He.DefD := ⟨("gaps_of", none), "gaps_of", "gaps_of", defArgs (top 23), defBody (top 23), defScope (top 23), [], []⟩
def dd_held_table : He.DefD := ⟨("held_table", none), "held_table", "held_table", defArgs (top 25), defBody (top 25), defScope (top 25), [], []⟩
def dd_negative : He.DefD := ⟨("negative", none), "negative", "negative", defArgs (top 26), defBody (top 26), defScope (top 26), [], []⟩
def dd_held : He.DefD := ⟨("held", none), "held", "held", defArgs (top 27), defBody (top 27), defScope (top 27), [], []⟩
def dd_spread : He.DefD := ⟨("spread", none), "spread", "spread", defArgs (top 28), defBody (top 28), defScope (top 28), [], []⟩
def dd_turn_of : He.DefD := ⟨("turn_of", none), "turn_of", "turn_of", defArgs (top 29), defBody (top 29), defScope (top 29), [], []⟩
def dd_first_out : He.DefD := ⟨("first_out", none), "first_out", "first_out", defArgs (top 30), defBody (top 30), defScope (top 30), [], []⟩
def dd_by_holding : He.DefD := ⟨("by_holding", none), "by_holding", "by_holding", defArgs (top 32), defBody (top 32), defScope (top 32), [], []⟩
def dd_rising : He.DefD := ⟨("rising", none), "rising", "rising", defArgs (top 34), defBody (top 34), defScope (top 34), [], []⟩
def dd_law_taken : He.DefD := ⟨("_law_taken", none), "_law_taken", "_law_taken", defArgs (top 36), defBody (top 36), defScope (top 36), [], []⟩
def dd_law_pick : He.DefD := ⟨("_law_pick", none), "_law_pick", "_law_pick", defArgs (top 37), defBody (top 37), defScope (top 37), [], []⟩
def dd_law_alike : He.DefD := ⟨("_law_alike", none), "_law_alike", "_law_alike", defArgs (top 38), defBody (top 38), defScope (top 38), [], []⟩
def dd_law_fr : He.DefD := ⟨("_law_fr", none), "_law_fr", "_law_fr", defArgs (top 39), defBody (top 39), defScope (top 39), [], []⟩
def dd_law_plus : He.DefD := ⟨("_law_plus", none), "_law_plus", "_law_plus", defArgs (top 40), defBody (top 40), defScope (top 40), [], []⟩
def dd_law_below : He.DefD := ⟨("_law_below", none), "_law_below", "_law_below", defArgs (top 41), defBody (top 41), defScope (top 41), [], []⟩
def dd_law_number : He.DefD := ⟨("_law_number", none), "_law_number", "_law_number", defArgs (top 42), defBody (top 42), defScope (top 42), [], []⟩
def dd_law : He.DefD := ⟨("law", none), "law", "law", defArgs (top 43), defBody (top 43), defScope (top 43), [], []⟩
def dd_Holder_init : He.DefD := ⟨("Holder", some "__init__"), "__init__", "Holder.__init__", defArgs (inClass (top 31) 0), defBody (inClass (top 31) 0), defScope (inClass (top 31) 0), [], []⟩
def dd_Holder_brought : He.DefD := ⟨("Holder", some "brought"), "brought", "Holder.brought", defArgs (inClass (top 31) 1), defBody (inClass (top 31) 1), defScope (inClass (top 31) 1), [], []⟩
def dd_Holder_done : He.DefD := ⟨("Holder", some "done"), "done", "Holder.done", defArgs (inClass (top 31) 2), defBody (inClass (top 31) 2), defScope (inClass (top 31) 2), [], []⟩
def fn : List He.DefD := [dd_is_int, dd_common, dd_fraction, dd_plus, dd_less, dd_times, dd_over, dd_is_below, dd_added, dd_inner, dd_solved, dd_is_small, dd_is_row, dd_costs_at, dd_rights_at, dd_gaps_of, dd_held_table, dd_negative, dd_held, dd_spread, dd_turn_of, dd_first_out, dd_by_holding, dd_rising, dd_law_taken, dd_law_pick, dd_law_alike, dd_law_fr, dd_law_plus, dd_law_below, dd_law_number, dd_law, dd_Holder_init, dd_Holder_brought, dd_Holder_done]
def fa : List He.Fa := [.glo "is_int", .glo "common", .glo "fraction", .glo "plus", .glo "less", .glo "times", .glo "over", .glo "is_below", .glo "added", .glo "inner", .glo "solved", .glo "is_small", .glo "is_row", .glo "costs_at", .glo "rights_at", .glo "gaps_of", .glo "held_table", .glo "negative", .glo "held", .glo "spread", .glo "turn_of", .glo "first_out", .glo "by_holding", .glo "rising", .glo "_law_taken", .glo "_law_pick", .glo "_law_alike", .glo "_law_fr", .glo "_law_plus", .glo "_law_below", .glo "_law_number", .glo "law", .free "abs", .free "all", .free "bool", .free "enumerate", .free "int", .free "isinstance", .free "len", .free "list", .free "max", .free "range", .free "sorted", .free "str", .free "sum", .free "tuple", .free "zip", .meth "Holder" "brought", .meth "Holder" "done", .glo "Holder", .cls "Holder", .mkr "Holder", .noat "Holder" "task", .noat "Holder" "share", .noat "Holder" "lot", .noat "Holder" "weights", .noat "Holder" "plan", .glo "NOUGHT", .int "MOST_WIDE" 4, .int "MOST_GIVEN" 1000]
def ex (K : PySem.W.Frag) : Bool := tupBA K (He.ga K "NOUGHT") [0, 1] && tupBA K (He.dflAt ("added", none) 0 K) [1, 1]
def loose : List PySem.Str := (["SquareError", "BadNumber", "NOUGHT", "is_int", "common", "fraction", "plus", "less", "times", "over", "is_below", "added", "inner", "solved", "MOST_WIDE", "MOST_GIVEN", "is_small", "is_row", "costs_at", "rights_at", "gaps_of", "held_table", "negative", "held", "spread", "turn_of", "first_out", "Holder", "by_holding", "rising"] : List PySem.Str) ++ (["_law_taken", "_law_pick", "_law_alike", "_law_fr", "_law_plus", "_law_below", "_law_number"] : List PySem.Str)
abbrev R : PySem.W.OpenRow := PySem.W.OpenLaw.row PySem.Challenge.rw_squarepaths_k05_whole_rising_rows
abbrev hk : PySem.W.Hook := He.hookX 5 fa fn [] [] ex
def ob (s : PySem.W.SharedT) : He.AlX := He.obsX 5 fa fn [] [] ex (HandSHeadRun.getT s)
theorem ob_eq (s : PySem.W.SharedT) : ob s = hk.obs s.abs := He.obsX_eq (HandSHeadRun.getT_eq s)
theorem run (w : World) : HandSHeadRun.RunEq R (PySem.W.view R.prog [43]) hk ob 6000 loose w := by
  intro os
  kernel_rfl
theorem topfacts {w : World} {K : PySem.W.Frag} {h : Heap} {mg : Str → Option Value} (X : K.In h) (G : h.Ns mainGlobals mg) (c : He.SaysX fa fn [] [] ex w h K) : Top K mg := by
  have e := c.more
  unfold ex at e
  simp only [Bool.and_eq_true] at e
  obtain ⟨e0, e1⟩ := e
  exact {
    f_abs := He.free_ok X G (c.t.d.fact 32 (f := .free "abs") rfl),
    f_all := He.free_ok X G (c.t.d.fact 33 (f := .free "all") rfl),
    f_bool := He.free_ok X G (c.t.d.fact 34 (f := .free "bool") rfl),
    f_enumerate := He.free_ok X G (c.t.d.fact 35 (f := .free "enumerate") rfl),
    f_int := He.free_ok X G (c.t.d.fact 36 (f := .free "int") rfl),
    f_isinstance := He.free_ok X G (c.t.d.fact 37 (f := .free "isinstance") rfl),
    f_len := He.free_ok X G (c.t.d.fact 38 (f := .free "len") rfl),
    f_list := He.free_ok X G (c.t.d.fact 39 (f := .free "list") rfl),
    f_max := He.free_ok X G (c.t.d.fact 40 (f := .free "max") rfl),
    f_range := He.free_ok X G (c.t.d.fact 41 (f := .free "range") rfl),
    f_sorted := He.free_ok X G (c.t.d.fact 42 (f := .free "sorted") rfl),
    f_str := He.free_ok X G (c.t.d.fact 43 (f := .free "str") rfl),
    f_sum := He.free_ok X G (c.t.d.fact 44 (f := .free "sum") rfl),
    f_tuple := He.free_ok X G (c.t.d.fact 45 (f := .free "tuple") rfl),
    f_zip := He.free_ok X G (c.t.d.fact 46 (f := .free "zip") rfl),
    d_is_int := c.t.d.def_ 0 (d := dd_is_int) rfl,
    g_is_int := He.glo_ok X G (c.t.d.fact 0 (f := .glo "is_int") rfl),
    d_common := c.t.d.def_ 1 (d := dd_common) rfl,
    g_common := He.glo_ok X G (c.t.d.fact 1 (f := .glo "common") rfl),
    d_fraction := c.t.d.def_ 2 (d := dd_fraction) rfl,
    g_fraction := He.glo_ok X G (c.t.d.fact 2 (f := .glo "fraction") rfl),
    d_plus := c.t.d.def_ 3 (d := dd_plus) rfl,
    g_plus := He.glo_ok X G (c.t.d.fact 3 (f := .glo "plus") rfl),
    d_less := c.t.d.def_ 4 (d := dd_less) rfl,
    g_less := He.glo_ok X G (c.t.d.fact 4 (f := .glo "less") rfl),
    d_times := c.t.d.def_ 5 (d := dd_times) rfl,
    g_times := He.glo_ok X G (c.t.d.fact 5 (f := .glo "times") rfl),
    d_over := c.t.d.def_ 6 (d := dd_over) rfl,
    g_over := He.glo_ok X G (c.t.d.fact 6 (f := .glo "over") rfl),
    d_is_below := c.t.d.def_ 7 (d := dd_is_below) rfl,
    g_is_below := He.glo_ok X G (c.t.d.fact 7 (f := .glo "is_below") rfl),
    d_added := c.t.d.def_ 8 (d := dd_added) rfl,
    g_added := He.glo_ok X G (c.t.d.fact 8 (f := .glo "added") rfl),
    dfl_added := fun H => .cons (rp_tupBA e1 H) .nil,
    d_inner := c.t.d.def_ 9 (d := dd_inner) rfl,
    g_inner := He.glo_ok X G (c.t.d.fact 9 (f := .glo "inner") rfl),
    d_solved := c.t.d.def_ 10 (d := dd_solved) rfl,
    g_solved := He.glo_ok X G (c.t.d.fact 10 (f := .glo "solved") rfl),
    d_is_small := c.t.d.def_ 11 (d := dd_is_small) rfl,
    g_is_small := He.glo_ok X G (c.t.d.fact 11 (f := .glo "is_small") rfl),
    d_is_row := c.t.d.def_ 12 (d := dd_is_row) rfl,
    g_is_row := He.glo_ok X G (c.t.d.fact 12 (f := .glo "is_row") rfl),
    d_costs_at := c.t.d.def_ 13 (d := dd_costs_at) rfl,
    g_costs_at := He.glo_ok X G (c.t.d.fact 13 (f := .glo "costs_at") rfl),
    d_rights_at := c.t.d.def_ 14 (d := dd_rights_at) rfl,
    g_rights_at := He.glo_ok X G (c.t.d.fact 14 (f := .glo "rights_at") rfl),
    d_gaps_of := c.t.d.def_ 15 (d := dd_gaps_of) rfl,
    g_gaps_of := He.glo_ok X G (c.t.d.fact 15 (f := .glo "gaps_of") rfl),
    d_held_table := c.t.d.def_ 16 (d := dd_held_table) rfl,
    g_held_table := He.glo_ok X G (c.t.d.fact 16 (f := .glo "held_table") rfl),
    d_negative := c.t.d.def_ 17 (d := dd_negative) rfl,
    g_negative := He.glo_ok X G (c.t.d.fact 17 (f := .glo "negative") rfl),
    d_held := c.t.d.def_ 18 (d := dd_held) rfl,
    g_held := He.glo_ok X G (c.t.d.fact 18 (f := .glo "held") rfl),
    d_spread := c.t.d.def_ 19 (d := dd_spread) rfl,
    g_spread := He.glo_ok X G (c.t.d.fact 19 (f := .glo "spread") rfl),
    d_turn_of := c.t.d.def_ 20 (d := dd_turn_of) rfl,
    g_turn_of := He.glo_ok X G (c.t.d.fact 20 (f := .glo "turn_of") rfl),
    d_first_out := c.t.d.def_ 21 (d := dd_first_out) rfl,
    g_first_out := He.glo_ok X G (c.t.d.fact 21 (f := .glo "first_out") rfl),
    d_by_holding := c.t.d.def_ 22 (d := dd_by_holding) rfl,
    g_by_holding := He.glo_ok X G (c.t.d.fact 22 (f := .glo "by_holding") rfl),
    d_rising := c.t.d.def_ 23 (d := dd_rising) rfl,
    g_rising := He.glo_ok X G (c.t.d.fact 23 (f := .glo "rising") rfl),
    d_law_taken := c.t.d.def_ 24 (d := dd_law_taken) rfl,
    g_law_taken := He.glo_ok X G (c.t.d.fact 24 (f := .glo "_law_taken") rfl),
    d_law_pick := c.t.d.def_ 25 (d := dd_law_pick) rfl,
    g_law_pick := He.glo_ok X G (c.t.d.fact 25 (f := .glo "_law_pick") rfl),
    d_law_alike := c.t.d.def_ 26 (d := dd_law_alike) rfl,
    g_law_alike := He.glo_ok X G (c.t.d.fact 26 (f := .glo "_law_alike") rfl),
    d_law_fr := c.t.d.def_ 27 (d := dd_law_fr) rfl,
    g_law_fr := He.glo_ok X G (c.t.d.fact 27 (f := .glo "_law_fr") rfl),
    d_law_plus := c.t.d.def_ 28 (d := dd_law_plus) rfl,
    g_law_plus := He.glo_ok X G (c.t.d.fact 28 (f := .glo "_law_plus") rfl),
    d_law_below := c.t.d.def_ 29 (d := dd_law_below) rfl,
    g_law_below := He.glo_ok X G (c.t.d.fact 29 (f := .glo "_law_below") rfl),
    d_law_number := c.t.d.def_ 30 (d := dd_law_number) rfl,
    g_law_number := He.glo_ok X G (c.t.d.fact 30 (f := .glo "_law_number") rfl),
    d_law := c.t.d.def_ 31 (d := dd_law) rfl,
    g_law := He.glo_ok X G (c.t.d.fact 31 (f := .glo "law") rfl),
    d_Holder_init := c.t.d.def_ 32 (d := dd_Holder_init) rfl,
    d_Holder_brought := c.t.d.def_ 33 (d := dd_Holder_brought) rfl,
    m_Holder_brought := He.meth_ok (c.t.d.fact 47 (f := .meth "Holder" "brought") rfl),
    d_Holder_done := c.t.d.def_ 34 (d := dd_Holder_done) rfl,
    m_Holder_done := He.meth_ok (c.t.d.fact 48 (f := .meth "Holder" "done") rfl),
    g_Holder := He.glo_ok X G (c.t.d.fact 49 (f := .glo "Holder") rfl),
    c_Holder := He.cls_ok (c.t.d.fact 50 (f := .cls "Holder") rfl),
    k_Holder := He.mkr_ok (c.t.d.fact 51 (f := .mkr "Holder") rfl),
    n_Holder_task := He.noat_ok (c.t.d.fact 52 (f := .noat "Holder" "task") rfl),
    n_Holder_share := He.noat_ok (c.t.d.fact 53 (f := .noat "Holder" "share") rfl),
    n_Holder_lot := He.noat_ok (c.t.d.fact 54 (f := .noat "Holder" "lot") rfl),
    n_Holder_weights := He.noat_ok (c.t.d.fact 55 (f := .noat "Holder" "weights") rfl),
    n_Holder_plan := He.noat_ok (c.t.d.fact 56 (f := .noat "Holder" "plan") rfl),
    c_NOUGHT := ⟨⟨_, PySem.W.mg_of X G (He.eqO_ok (c.t.d.fact 57 (f := .glo "NOUGHT") rfl)), rfl⟩, rp_tupBA e0⟩,
    c_MOST_WIDE := let ⟨t, q⟩ := He.int_ok X G (c.t.d.fact 58 (f := .int "MOST_WIDE" 4) rfl); ⟨⟨_, q, ⟨t, rfl⟩⟩, fun _ => .int _⟩,
    c_MOST_GIVEN := let ⟨t, q⟩ := He.int_ok X G (c.t.d.fact 59 (f := .int "MOST_GIVEN" 1000) rfl); ⟨⟨_, q, ⟨t, rfl⟩⟩, fun _ => .int _⟩ }
section
variable {P : Program} {w : World} {K : PySem.W.Frag} {mg : Str → Option Value} {base : Heap}
theorem walks {fd : FuncData} (T : Top K mg) (F : FunD K "law" "law" (defArgs s_law) (defBody s_law) (defScope s_law) [] [] (He.ga K "law") fd) (hS : base.NoSeer) (ht : P.given.tree = none) : FnOk P w K mg base CX0 43 (He.ga K "law") fd ["_law_script"] (spLaw K 5805 PG.g_law 19) := by
  have h_common := ok_common (P := P) (w := w) (mg := mg) (base := base) T 
  have h_fraction := ok_fraction (P := P) (w := w) (mg := mg) (base := base) T hS ht h_common
  have h_plus := ok_plus (P := P) (w := w) (mg := mg) (base := base) T h_fraction
  have h_times := ok_times (P := P) (w := w) (mg := mg) (base := base) T h_fraction
  have h_rights_at := ok_rights_at (P := P) (w := w) (mg := mg) (base := base) T h_plus h_times
  have h_negative := ok_negative (P := P) (w := w) (mg := mg) (base := base) T 
  have h_costs_at := ok_costs_at (P := P) (w := w) (mg := mg) (base := base) T h_plus h_times
  have h_over := ok_over (P := P) (w := w) (mg := mg) (base := base) T h_fraction
  obtain ⟨fd_added, F_added⟩ := T.d_added
  have q_added := ok0_added (P := P) (w := w) (mg := mg) (base := base) T h_plus h_times F_added
  obtain ⟨ds_added, v_added, b_added⟩ := F_added.binds1 (ps := ["one", "other", "many"]) 3 1 (by simp) rfl (fun T kV doc pm an cdv ct us its h1 h2 => match us, its, h1, h2 with | [_, _, _], [_], _, _ => ⟨_, rfl, rfl⟩)
  have h_added : Has P w K mg base "added" 36 [] (spP K PG.F_added) := ⟨_, fd_added, _, _, q_added, T.g_added, F_added.kp, b_added, v_added⟩
  obtain ⟨ds_added1, v_added1, b_added1⟩ := F_added.binds1 (ps := ["one", "other", "many"]) 2 0 (by simp) rfl (fun T kV doc pm an cdv ct us its h1 h2 => match us, its, h1, h2 with | [_, _], [_], _, _ => ⟨_, rfl, rfl⟩)
  have h_added1 : Has P w K mg base "added" 36 [.ref (He.dflAt ("added", none) 0 K)] (spP K PG.F_added) := ⟨_, fd_added, _, _, q_added, T.g_added, F_added.kp, b_added1, v_added1⟩
  have qN_added := okN_added (P := P) (w := w) (mg := mg) (base := base) T h_plus h_times F_added
  have hN_added : Has P w K mg base "added" 36 [] (spGN K (runNew PG.n_added 3 5)) := ⟨_, fd_added, _, _, qN_added, T.g_added, F_added.kp, b_added, v_added⟩
  have h_solved := ok_solved (P := P) (w := w) (mg := mg) (base := base) T h_over h_added
  have hG_held_table := okG_held_table (P := P) (w := w) (mg := mg) (base := base) T 
  have h_held_table : Has P w K mg base "held_table" 1 [] (spP K PG.F_held_table) := has_P hG_held_table
  have h_held := ok_held (P := P) (w := w) (mg := mg) (base := base) T h_rights_at h_negative h_costs_at h_solved h_held_table
  have hI_Holder_init := ok_Holder_init (P := P) (w := w) (mg := mg) (base := base) T h_held
  have hG_turn_of := okG_turn_of (P := P) (w := w) (mg := mg) (base := base) T h_solved hG_held_table
  have h_turn_of : Has P w K mg base "turn_of" 38 [] (spP K PG.F_turn_of) := has_P hG_turn_of
  have h_is_below := ok_is_below (P := P) (w := w) (mg := mg) (base := base) T 
  have hG_first_out := okG_first_out (P := P) (w := w) (mg := mg) (base := base) T h_over h_is_below
  have h_first_out : Has P w K mg base "first_out" 36 [] (spP K PG.F_first_out) := has_P hG_first_out
  have h_inner := ok_inner (P := P) (w := w) (mg := mg) (base := base) T h_plus h_times
  have hG_spread := okG_spread (P := P) (w := w) (mg := mg) (base := base) T 
  have h_spread : Has P w K mg base "spread" 1 [] (spP K PG.F_spread) := has_P hG_spread
  have h_less := ok_less (P := P) (w := w) (mg := mg) (base := base) T h_fraction
  have h_gaps_of := ok_gaps_of (P := P) (w := w) (mg := mg) (base := base) T h_rights_at h_less h_inner
  have hM_Holder_brought := ok_Holder_brought (P := P) (w := w) (mg := mg) (base := base) T hG_turn_of hG_first_out h_inner h_spread h_over h_less h_gaps_of h_is_below h_added hN_added
  have hM_Holder_done := ok_Holder_done (P := P) (w := w) (mg := mg) (base := base) T hM_Holder_brought h_gaps_of
  have h_is_int := ok_is_int (P := P) (w := w) (mg := mg) (base := base) T 
  have h_is_small := ok_is_small (P := P) (w := w) (mg := mg) (base := base) T h_is_int
  have h_is_row := ok_is_row (P := P) (w := w) (mg := mg) (base := base) T h_is_small
  have h_by_holding := ok_by_holding (P := P) (w := w) (mg := mg) (base := base) T hM_Holder_done hI_Holder_init hG_spread
  have h_rising := ok_rising (P := P) (w := w) (mg := mg) (base := base) T h_is_row h_by_holding
  have h_law_taken := ok_law_taken (P := P) (w := w) (mg := mg) (base := base) T hS ht 
  have h_law_pick := ok_law_pick (P := P) (w := w) (mg := mg) (base := base) T h_law_taken
  have h_law_alike := ok_law_alike (P := P) (w := w) (mg := mg) (base := base) T 
  have h_law_fr := ok_law_fr (P := P) (w := w) (mg := mg) (base := base) T hS ht 
  have h_law_plus := ok_law_plus (P := P) (w := w) (mg := mg) (base := base) T h_law_fr
  have h_law_below := ok_law_below (P := P) (w := w) (mg := mg) (base := base) T 
  have h_law_number := ok_law_number (P := P) (w := w) (mg := mg) (base := base) T h_law_taken
  exact ok_law T F h_law_taken h_law_pick h_law_number h_law_fr h_law_below h_law_alike h_rising h_law_plus
end
end WK
open PySem PySem.W PySem.Calls PyProof.Rows
theorem PySem.Challenge.cw_squarepaths_k05_whole_rising_rows_holds : PySem.Challenge.rw_squarepaths_k05_whole_rising_rows.Holds := by
  w_on; o_law
  refine HandSHeadRun.head_any (r := OpenLaw.row PySem.Challenge.rw_squarepaths_k05_whole_rising_rows) (q := view (OpenLaw.row PySem.Challenge.rw_squarepaths_k05_whole_rising_rows).prog [43]) (H := WK.hk) (ob := WK.ob) (M := 6000) (loose := WK.loose) (d := HandSHeadRun.topDef (OpenLaw.row PySem.Challenge.rw_squarepaths_k05_whole_rising_rows).prog 43) (kwd := []) WK.ob_eq
    (by kernel_rfl) (fun s => by kernel_rfl) WK.run (by kernel_rfl) (by kernel_rfl) (by kernel_rfl) (by rfl) (by first | assumption | decide +kernel) (by decide +kernel) ⟨rfl, rfl, rfl, rfl, rfl, by decide +kernel⟩ ?hw ?hc
  case hw => w_witness2
  case hc =>
    refine DL.walk_ofS (l := PySem.Challenge.rw_squarepaths_k05_whole_rising_rows) (n := 63) (k := 43) (x := "_law_script") rfl (by decide) (by kernel_rfl) ⟨rfl, by decide, by decide⟩ (by kernel_rfl) ?F
    intro w mg fa h Y G hmg0
    obtain ⟨K, KX, c⟩ := Y
    have hmg : mg ("law" : PySem.Str) = some (.ref fa) := by
      have e : (HandSHeadRun.topDef (OpenLaw.row PySem.Challenge.rw_squarepaths_k05_whole_rising_rows).prog 43).name = ("law" : PySem.Str) := by kernel_rfl
      rw [← e]
      exact hmg0
    have T := WK.topfacts KX G c
    have e := hmg.symm.trans T.g_law
    cases e
    obtain ⟨fd, F⟩ := T.d_law
    have b := L2.FunD.bindsA (ps := ["_law_script"]) F fun _ _ _ _ _ _ us hl => match us, hl with | [_], _ => rfl
    exact ⟨K, fd, DL.spLaw K 5805 PG.g_law 19, KX, fun s v => b s [v] rfl, fun H a ns hl hS => ⟨a, ns, rfl, hS, PU.law_true ns hl, fun _ => rfl⟩, fun base KB GB SB => WK.walks (P := (PySem.Challenge.rw_squarepaths_k05_whole_rising_rows).prog) (w := w) (mg := mg) T F SB rfl⟩
