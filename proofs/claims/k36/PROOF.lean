import PyProof.Rows.All
import Wide.All
import OpenK.AllK
import Wide.FinOn
import KE.KStateDown
import HandS.ForMost
import HandS.ForExc
import HandS.Defaults
import HandS.Wide
import HandS.IsInst
import HandS.Text
import HandS.CallSlots
import HandS.NoneIn
import HandS.RevRange
import HandS.Property
import HandS.Star
import HandS.OwnEq
import HandS.SetFor
import Lean
import HandS.Head2
import HandS.HeadEnd
import HandS.HeadHook2
import HandS.SortInts
import HandS.ExcInit
import HandS.ExcField
import HandS.TryOnly
import HandS.Small
import HandS.ClsMeth
import HandS.HeadNt
import HandS.Conv
import HandS.FStr
import HandS.Iter
import HandS.MakeKw
import HandS.Style
import HandS.TryMany
import KE.KExcIs
import HandS.ExcIs
import HandS.WideBits
import HandS.List
import PyProof.StrBlock2
import PySem.Challenge.RW_walkdues_k36_calendar_rows
set_option Elab.async false
set_option linter.all false
set_option maxRecDepth 100000
set_option maxHeartbeats 4000000
/-! DL: deep data over the hand layer. A value is plain data (D); the heap is hidden: G what is known and never changes, m the mutable objects, F a frame that is kept. -/
namespace DL
open PySem PySem.Spec PyProof.Rows L2

inductive D where
  | non
  | bl (b : Bool)
  | int (i : Int)
  | str (x : Str)
  | ty (n : String)
  | ref (a : Addr)
  | lst (xs : List D)
  | rdl (xs : List D)
  | tup (xs : List D)
  | ins (C : Addr) (fs : List (Str × D))
  | exn (a : Addr) (d : Option Addr) (fs : List (Str × D))

mutual
inductive Rp (K : PySem.W.Frag) (G : Hp) : D → V → Prop
  | non : Rp K G .non .non
  | bl (b : Bool) : Rp K G (.bl b) (.bl b)
  | int (i : Int) : Rp K G (.int i) (.int i)
  | str (x : Str) : Rp K G (.str x) (.str x)
  | ty (n : String) : Rp K G (.ty n) (.ty n)
  | ref (a : Addr) : Rp K G (.ref a) (.ref a)
  | lst {a : Addr} {vs : List V} {ds : List D} : G a = some (.lst vs) → Rps K G ds vs → Rp K G (.lst ds) (.ref a)
  | rdl {a : Addr} {vs : List V} {ds : List D} : SqL K G a vs → Rps K G ds vs → Rp K G (.rdl ds) (.ref a)
  | tup {a : Addr} {vs : List V} {ds : List D} : SqT K G a vs → Rps K G ds vs → Rp K G (.tup ds) (.ref a)
  | ins {a C dx : Addr} {fv : List (Str × V)} {fs : List (Str × D)} : G a = some (.ins C dx fv) → Rpf K G fs fv → Rp K G (.ins C fs) (.ref a)
  | exn0 (a : Addr) : Rp K G (.exn a none []) (.ref a)
  | exnS {a d : Addr} {fv : List (Str × V)} {fs : List (Str × D)} : G d = some (.xd fv) → Rpf K G fs fv → Rp K G (.exn a (some d) fs) (.ref a)
inductive Rps (K : PySem.W.Frag) (G : Hp) : List D → List V → Prop
  | nil : Rps K G [] []
  | cons {d : D} {ds : List D} {v : V} {vs : List V} : Rp K G d v → Rps K G ds vs → Rps K G (d :: ds) (v :: vs)
inductive Rpf (K : PySem.W.Frag) (G : Hp) : List (Str × D) → List (Str × V) → Prop
  | nil : Rpf K G [] []
  | cons {n : Str} {d : D} {ds : List (Str × D)} {v : V} {vs : List (Str × V)} : Rp K G d v → Rpf K G ds vs → Rpf K G ((n, d) :: ds) ((n, v) :: vs)
end

theorem same_sqt {K : PySem.W.Frag} {H H' : Hp} {a : Addr} {xs : List V} (e : Same H H') (h : SqT K H a xs) : SqT K H' a xs := by
  rcases h with (h | ⟨o, h⟩) | h
  · exact .inl (.inl (e _ _ h))
  · exact .inl (.inr ⟨o, e _ _ h⟩)
  · exact .inr h
theorem same_new {H : Hp} {p : Addr} {o : HO} (h : H p = none) : Same H (upd H p o) := fun a u e => by
  rw [upd_ne (ne_of_none e h)]
  exact e
theorem same_mut {H H' : Hp} {p : Addr} {o : HO} (e : Same H H') (h : H p = none) : Same H (upd H' p o) := fun a u ha => by
  rw [upd_ne (ne_of_none ha h)]
  exact e a u ha

section
variable {K : PySem.W.Frag} {G G' : Hp}
mutual
theorem Rp.mono (e : Same G G') : ∀ {d : D} {v : V}, Rp K G d v → Rp K G' d v
  | _, _, .non => .non
  | _, _, .bl b => .bl b
  | _, _, .int i => .int i
  | _, _, .str x => .str x
  | _, _, .ty n => .ty n
  | _, _, .ref a => .ref a
  | _, _, .lst h r => .lst (e _ _ h) (Rps.mono e r)
  | _, _, .rdl h r => .rdl (e.seq h) (Rps.mono e r)
  | _, _, .tup h r => .tup (same_sqt e h) (Rps.mono e r)
  | _, _, .ins h r => .ins (e _ _ h) (Rpf.mono e r)
  | _, _, .exn0 a => .exn0 a
  | _, _, .exnS h r => .exnS (e _ _ h) (Rpf.mono e r)
theorem Rps.mono (e : Same G G') : ∀ {ds : List D} {vs : List V}, Rps K G ds vs → Rps K G' ds vs
  | _, _, .nil => .nil
  | _, _, .cons r t => .cons (Rp.mono e r) (Rps.mono e t)
theorem Rpf.mono (e : Same G G') : ∀ {ds : List (Str × D)} {vs : List (Str × V)}, Rpf K G ds vs → Rpf K G' ds vs
  | _, _, .nil => .nil
  | _, _, .cons r t => .cons (Rp.mono e r) (Rpf.mono e t)
end
theorem Rps.length : ∀ {ds : List D} {vs : List V}, Rps K G ds vs → ds.length = vs.length
  | _, _, .nil => rfl
  | _, _, .cons _ t => congrArg Nat.succ (Rps.length t)
theorem Rps.append : ∀ {ds es : List D} {vs us : List V}, Rps K G ds vs → Rps K G es us → Rps K G (ds ++ es) (vs ++ us)
  | _, _, _, _, .nil, s => s
  | _, _, _, _, .cons r t, s => .cons r (Rps.append t s)
theorem Rps.get : ∀ {ds : List D} {vs : List V} {i : Nat} {d : D}, Rps K G ds vs → ds[i]? = some d → ∃ v, vs[i]? = some v ∧ Rp K G d v
  | _, _, _, _, .nil, e => by simp at e
  | _, _, 0, _, .cons r _, e => by simp at e; subst e; exact ⟨_, rfl, r⟩
  | _, _, i + 1, d, .cons _ t, e => by
    obtain ⟨u, h1, h2⟩ := Rps.get (i := i) (d := d) t (by simpa using e)
    exact ⟨u, by simpa using h1, h2⟩
theorem Rps.getV : ∀ {ds : List D} {vs : List V} {i : Nat} {v : V}, Rps K G ds vs → vs[i]? = some v → ∃ d, ds[i]? = some d ∧ Rp K G d v
  | _, _, _, _, .nil, e => by simp at e
  | _, _, 0, _, .cons r _, e => by simp at e; subst e; exact ⟨_, rfl, r⟩
  | _, _, i + 1, v, .cons _ t, e => by
    obtain ⟨u, h1, h2⟩ := Rps.getV (i := i) (v := v) t (by simpa using e)
    exact ⟨u, by simpa using h1, h2⟩
theorem Rps.set {d : D} {v : V} (r : Rp K G d v) : ∀ {ds : List D} {vs : List V} (i : Nat), Rps K G ds vs → Rps K G (ds.set i d) (vs.set i v)
  | _, _, _, .nil => .nil
  | _, _, 0, .cons _ t => .cons r t
  | _, _, i + 1, .cons q t => .cons q (Rps.set r i t)
theorem Rps.take : ∀ {ds : List D} {vs : List V} (n : Nat), Rps K G ds vs → Rps K G (ds.take n) (vs.take n)
  | _, _, 0, _ => .nil
  | _, _, _ + 1, .nil => .nil
  | _, _, n + 1, .cons r t => .cons r (Rps.take n t)
theorem Rps.drop : ∀ {ds : List D} {vs : List V} (n : Nat), Rps K G ds vs → Rps K G (ds.drop n) (vs.drop n)
  | _, _, 0, r => r
  | _, _, _ + 1, .nil => .nil
  | _, _, n + 1, .cons _ t => Rps.drop n t
theorem Rps.eraseIdx : ∀ {ds : List D} {vs : List V} (i : Nat), Rps K G ds vs → Rps K G (ds.eraseIdx i) (vs.eraseIdx i)
  | _, _, _, .nil => .nil
  | _, _, 0, .cons _ t => t
  | _, _, i + 1, .cons r t => .cons r (Rps.eraseIdx i t)
theorem Rps.reverse : ∀ {ds : List D} {vs : List V}, Rps K G ds vs → Rps K G ds.reverse vs.reverse
  | _, _, .nil => .nil
  | _, _, .cons r t => by
    rw [List.reverse_cons, List.reverse_cons]
    exact (Rps.reverse t).append (.cons r .nil)
theorem Rps.ints : ∀ {ns : List Int} {vs : List V}, Rps K G (ns.map D.int) vs → vs = ns.map V.int
  | [], _, .nil => rfl
  | n :: ns, _, .cons r t => by
    cases r
    rw [Rps.ints t]
    rfl
theorem Rps.ofInts : ∀ (ns : List Int), Rps K G (ns.map D.int) (ns.map V.int)
  | [] => .nil
  | n :: ns => .cons (.int n) (Rps.ofInts ns)
theorem Rps.bls : ∀ {bs : List Bool} {vs : List V}, Rps K G (bs.map D.bl) vs → vs = bs.map V.bl
  | [], _, .nil => rfl
  | n :: ns, _, .cons r t => by
    cases r
    rw [Rps.bls t]
    rfl
theorem Rps.strs : ∀ {bs : List Str} {vs : List V}, Rps K G (bs.map D.str) vs → vs = bs.map V.str
  | [], _, .nil => rfl
  | n :: ns, _, .cons r t => by
    cases r
    rw [Rps.strs t]
    rfl
theorem Rpf.lookup : ∀ {fs : List (Str × D)} {fv : List (Str × V)} {x : Str} {d : D}, Rpf K G fs fv → fs.lookup x = some d → ∃ v, fv.lookup x = some v ∧ Rp K G d v
  | _, _, _, _, .nil, e => by simp at e
  | _, _, x, d, .cons (n := n) r t, e => by
    rw [List.lookup_cons] at e
    cases q : (x == n) with
    | true =>
      rw [q] at e
      cases e
      exact ⟨_, by rw [List.lookup_cons, q], r⟩
    | false =>
      rw [q] at e
      obtain ⟨v, h1, h2⟩ := Rpf.lookup t e
      exact ⟨v, by rw [List.lookup_cons, q]; exact h1, h2⟩
theorem Rpf.lookupN : ∀ {fs : List (Str × D)} {fv : List (Str × V)} {x : Str}, Rpf K G fs fv → fs.lookup x = none → fv.lookup x = none
  | _, _, _, .nil, e => rfl
  | _, _, x, .cons (n := n) r t, e => by
    rw [List.lookup_cons] at e ⊢
    cases q : (x == n) with
    | true =>
      rw [q] at e
      cases e
    | false =>
      rw [q] at e
      exact Rpf.lookupN t e
theorem Rpf.length : ∀ {fs : List (Str × D)} {fv : List (Str × V)}, Rpf K G fs fv → fs.length = fv.length
  | _, _, .nil => rfl
  | _, _, .cons _ t => congrArg Nat.succ (Rpf.length t)
end
/-- a field put -/
def putD (f : Str) (v : D) : List (Str × D) → List (Str × D)
  | [] => [(f, v)]
  | (g, x) :: r => if g = f then (g, v) :: r else (g, x) :: putD f v r
theorem Rpf.put {K : PySem.W.Frag} {G : Hp} {f : Str} {d : D} {v : V} (r : Rp K G d v) : ∀ {fs : List (Str × D)} {fv : List (Str × V)}, Rpf K G fs fv → Rpf K G (putD f d fs) (putF f v fv)
  | _, _, .nil => .cons r .nil
  | _, _, .cons (n := n) q t => by
    show Rpf K G (if n = f then _ else _) (if n = f then _ else _)
    by_cases h : n = f
    · rw [if_pos h, if_pos h]
      exact .cons r t
    · rw [if_neg h, if_neg h]
      exact .cons q (Rpf.put r t)

/-! ### mutable objects -/
inductive MO where
  | lst (xs : List D)
  | dK (kvs : List (Key × D))
  | dT (kvs : List (List Key × D))
  | ins (C : Addr) (fs : List (Str × D))
inductive Rpk {κ : Type} (K : PySem.W.Frag) (G : Hp) : List (κ × D) → List (κ × V) → Prop
  | nil : Rpk K G [] []
  | cons {k : κ} {d : D} {ds : List (κ × D)} {v : V} {vs : List (κ × V)} : Rp K G d v → Rpk K G ds vs → Rpk K G ((k, d) :: ds) ((k, v) :: vs)
theorem Rpk.mono {κ : Type} {K : PySem.W.Frag} {G G' : Hp} (e : Same G G') : ∀ {ds : List (κ × D)} {vs : List (κ × V)}, Rpk K G ds vs → Rpk K G' ds vs
  | _, _, .nil => .nil
  | _, _, .cons r t => .cons (r.mono e) (Rpk.mono e t)
def RpM (K : PySem.W.Frag) (G : Hp) : MO → HO → Prop
  | .lst ds, .lst vs => Rps K G ds vs
  | .dK ds, .dK vs => Rpk K G ds vs
  | .dT ds, .dT vs => Rpk K G ds vs
  | .ins C fs, .ins C' _ fv => C = C' ∧ Rpf K G fs fv
  | _, _ => False
theorem RpM.mono {K : PySem.W.Frag} {G G' : Hp} (e : Same G G') {m : MO} {o : HO} (h : RpM K G m o) : RpM K G' m o := by
  cases m with
  | lst ds => cases o with
    | lst vs => exact Rps.mono e h
    | _ => exact h.elim
  | dK ds => cases o with
    | dK vs => exact Rpk.mono e h
    | _ => exact h.elim
  | dT ds => cases o with
    | dT vs => exact Rpk.mono e h
    | _ => exact h.elim
  | ins C fs => cases o with
    | ins C' dx fv => exact ⟨h.1, h.2.mono e⟩
    | _ => exact h.elim
theorem RpM.ofLst {K : PySem.W.Frag} {G : Hp} {ds : List D} {o : HO} (h : RpM K G (.lst ds) o) : ∃ vs, o = .lst vs ∧ Rps K G ds vs := by
  cases o with
  | lst vs => exact ⟨vs, rfl, h⟩
  | _ => exact h.elim
theorem RpM.ofIns {K : PySem.W.Frag} {G : Hp} {C : Addr} {fs : List (Str × D)} {o : HO} (h : RpM K G (.ins C fs) o) : ∃ dx fv, o = .ins C dx fv ∧ Rpf K G fs fv := by
  cases o with
  | ins C' dx fv => obtain ⟨rfl, h⟩ := h; exact ⟨dx, fv, rfl, h⟩
  | _ => exact h.elim
abbrev M := Addr → Option MO
def mset (m : M) (a : Addr) (o : MO) : M := fun b => if b = a then some o else m b
def mdel (m : M) (a : Addr) : M := fun b => if b = a then none else m b
theorem mset_same {m : M} {a : Addr} {o : MO} : mset m a o a = some o := if_pos rfl
theorem mset_ne {m : M} {a b : Addr} {o : MO} (h : b ≠ a) : mset m a o b = m b := if_neg h
theorem mdel_same {m : M} {a : Addr} : mdel m a a = none := if_pos rfl
theorem mdel_ne {m : M} {a b : Addr} (h : b ≠ a) : mdel m a b = m b := if_neg h
theorem mset_mset {m : M} {a : Addr} {o u : MO} : mset (mset m a o) a u = mset m a u := by
  funext b; unfold mset; split <;> rfl
theorem mdel_mset {m : M} {a : Addr} {o : MO} (h : m a = none) : mdel (mset m a o) a = m := by
  funext b; unfold mdel mset
  by_cases e : b = a
  · rw [if_pos e, e, h]
  · rw [if_neg e, if_neg e]
theorem mset_comm {m : M} {a b : Addr} {o u : MO} (h : a ≠ b) : mset (mset m a o) b u = mset (mset m b u) a o := by
  funext c; unfold mset
  by_cases e : c = a
  · subst e; rw [if_neg h, if_pos rfl, if_pos rfl]
  · by_cases e2 : c = b
    · subst e2; rw [if_pos rfl, if_neg e, if_pos rfl]
    · rw [if_neg e2, if_neg e, if_neg e, if_neg e2]
theorem mdel_mset_ne {m : M} {a b : Addr} {o : MO} (h : a ≠ b) : mdel (mset m b o) a = mset (mdel m a) b o := by
  funext c
  by_cases e : c = a
  · subst e; rw [mdel_same, mset_ne h, mdel_same]
  · rw [mdel_ne e]
    by_cases e2 : c = b
    · subst e2; rw [mset_same, mset_same]
    · rw [mset_ne e2, mset_ne e2, mdel_ne e]

structure Rep (K : PySem.W.Frag) (G H F : Hp) (m : M) : Prop where
  ext : Same G H
  frm : Same F H
  dis : ∀ a o, F a = some o → G a = none
  mo : ∀ a o, m a = some o → G a = none ∧ F a = none ∧ ∃ u, H a = some u ∧ RpM K G o u
section
variable {K : PySem.W.Frag} {G H F : Hp} {m : M} {p a : Addr} {o : HO} {u : MO}
theorem Rep.free (r : Rep K G H F m) (h : H p = none) : G p = none := r.ext.free h
theorem Rep.mfree (r : Rep K G H F m) (h : H p = none) : m p = none := by
  cases q : m p with
  | none => rfl
  | some o =>
    obtain ⟨_, _, u, e, _⟩ := r.mo p o q
    rw [h] at e
    cases e
/-- a new object, known for ever -/
theorem Rep.froz (r : Rep K G H F m) (h : H p = none) : Same G (upd G p o) ∧ Rep K (upd G p o) (upd H p o) F m := by
  have g := r.free h
  refine ⟨same_new g, fun b v e => ?_, fun b v e => ?_, fun b v e => ?_, fun b v e => ?_⟩
  · by_cases hb : b = p
    · subst hb; rw [upd_same] at e ⊢; exact e
    · rw [upd_ne hb] at e ⊢; exact r.ext b v e
  · rw [upd_ne (ne_of_none (r.frm b v e) h)]; exact r.frm b v e
  · rw [upd_ne (ne_of_none (r.frm b v e) h)]; exact r.dis b v e
  · obtain ⟨h1, h2, u, h3, h4⟩ := r.mo b v e
    have hb : b ≠ p := ne_of_none h3 h
    exact ⟨by rw [upd_ne hb]; exact h1, h2, u, by rw [upd_ne hb]; exact h3, h4.mono (same_new g)⟩
/-- a new object that nobody knows of -/
theorem Rep.junk (r : Rep K G H F m) (h : H p = none) : Rep K G (upd H p o) F m := by
  refine ⟨same_mut r.ext (r.free h), fun b v e => ?_, r.dis, fun b v e => ?_⟩
  · rw [upd_ne (ne_of_none (r.frm b v e) h)]; exact r.frm b v e
  · obtain ⟨h1, h2, u, h3, h4⟩ := r.mo b v e
    exact ⟨h1, h2, u, by rw [upd_ne (ne_of_none h3 h)]; exact h3, h4⟩
/-- a new mutable object -/
theorem Rep.newm (r : Rep K G H F m) (h : H p = none) (hu : RpM K G u o) : Rep K G (upd H p o) F (mset m p u) := by
  refine ⟨same_mut r.ext (r.free h), fun b v e => ?_, r.dis, fun b v e => ?_⟩
  · rw [upd_ne (ne_of_none (r.frm b v e) h)]; exact r.frm b v e
  · by_cases hb : b = p
    · subst hb
      rw [mset_same] at e
      cases e
      exact ⟨r.free h, r.frm.free h, o, upd_same, hu⟩
    · rw [mset_ne hb] at e
      obtain ⟨h1, h2, w, h3, h4⟩ := r.mo b v e
      exact ⟨h1, h2, w, by rw [upd_ne hb]; exact h3, h4⟩
/-- a mutable object is written -/
theorem Rep.write {v : MO} (r : Rep K G H F m) (h : m a = some v) (hu : RpM K G u o) : Rep K G (upd H a o) F (mset m a u) := by
  obtain ⟨g1, f1, w, h3, h4⟩ := r.mo a v h
  refine ⟨same_mut r.ext g1, fun b z e => ?_, r.dis, fun b z e => ?_⟩
  · have hb : b ≠ a := fun q => by rw [q, f1] at e; cases e
    rw [upd_ne hb]; exact r.frm b z e
  · by_cases hb : b = a
    · subst hb
      rw [mset_same] at e
      cases e
      exact ⟨g1, f1, o, upd_same, hu⟩
    · rw [mset_ne hb] at e
      obtain ⟨h1, h2, w, h3, h4⟩ := r.mo b z e
      exact ⟨h1, h2, w, by rw [upd_ne hb]; exact h3, h4⟩
/-- a mutable list is known for ever from now on -/
theorem Rep.freeze {ds : List D} (r : Rep K G H F m) (h : m a = some (.lst ds)) : ∃ G', Same G G' ∧ Rep K G' H F (mdel m a) ∧ Rp K G' (.lst ds) (.ref a) := by
  obtain ⟨g1, f1, w, h3, h4⟩ := r.mo a _ h
  obtain ⟨vs, rfl, h4⟩ := h4.ofLst
  have sm : Same G (upd G a (.lst vs)) := same_new g1
  refine ⟨upd G a (.lst vs), sm, ⟨fun b z e => ?_, r.frm, fun b z e => by rw [upd_ne (fun q => by rw [q, f1] at e; cases e)]; exact r.dis b z e, fun b z e => ?_⟩, .lst upd_same (h4.mono sm)⟩
  · by_cases hb : b = a
    · subst hb; rw [upd_same] at e; rw [h3]; exact e
    · rw [upd_ne hb] at e; exact r.ext b z e
  · by_cases hb : b = a
    · subst hb; rw [mdel_same] at e; cases e
    · rw [mdel_ne hb] at e
      obtain ⟨h1, h2, w, h5, h6⟩ := r.mo b z e
      exact ⟨by rw [upd_ne hb]; exact h1, h2, w, h5, h6.mono sm⟩
theorem Rep.freezeI {C : Addr} {fs : List (Str × D)} (r : Rep K G H F m) (h : m a = some (.ins C fs)) : ∃ G', Same G G' ∧ Rep K G' H F (mdel m a) ∧ Rp K G' (.ins C fs) (.ref a) := by
  obtain ⟨g1, f1, w, h3, h4⟩ := r.mo a _ h
  obtain ⟨dx, fv, rfl, h5⟩ := h4.ofIns
  have sm : Same G (upd G a (.ins C dx fv)) := same_new g1
  refine ⟨upd G a (.ins C dx fv), sm, ⟨fun b z e => ?_, r.frm, fun b z e => by rw [upd_ne (fun q => by rw [q, f1] at e; cases e)]; exact r.dis b z e, fun b z e => ?_⟩, .ins upd_same (h5.mono sm)⟩
  · by_cases hb : b = a
    · subst hb; rw [upd_same] at e; rw [h3]; exact e
    · rw [upd_ne hb] at e; exact r.ext b z e
  · by_cases hb : b = a
    · subst hb; rw [mdel_same] at e; cases e
    · rw [mdel_ne hb] at e
      obtain ⟨h1, h2, w, h5, h6⟩ := r.mo b z e
      exact ⟨by rw [upd_ne hb]; exact h1, h2, w, h5, h6.mono sm⟩
end

section
variable {K : PySem.W.Frag} {G H F : Hp} {m : M} {p : Addr} {o u : HO}
/-- a new object goes into the frame -/
theorem Rep.hide (r : Rep K G H F m) (h : H p = none) : Rep K G (upd H p o) (upd F p o) m := by
  refine ⟨same_mut r.ext (r.free h), fun b v e => ?_, fun b v e => ?_, fun b v e => ?_⟩
  · by_cases hb : b = p
    · subst hb; rw [upd_same] at e ⊢; exact e
    · rw [upd_ne hb] at e ⊢; exact r.frm b v e
  · by_cases hb : b = p
    · subst hb; exact r.free h
    · rw [upd_ne hb] at e; exact r.dis b v e
  · obtain ⟨h1, h2, w, h3, h4⟩ := r.mo b v e
    have hb : b ≠ p := ne_of_none h3 h
    exact ⟨h1, by rw [upd_ne hb]; exact h2, w, by rw [upd_ne hb]; exact h3, h4⟩
/-- an object of the frame is written -/
theorem Rep.turn (r : Rep K G H (upd F p o) m) : Rep K G (upd H p u) (upd F p u) m := by
  have g : G p = none := r.dis p o upd_same
  refine ⟨same_mut r.ext g, fun b v e => ?_, fun b v e => ?_, fun b v e => ?_⟩
  · by_cases hb : b = p
    · subst hb; rw [upd_same] at e ⊢; exact e
    · rw [upd_ne hb] at e ⊢; exact r.frm b v (by rw [upd_ne hb]; exact e)
  · by_cases hb : b = p
    · subst hb; exact g
    · rw [upd_ne hb] at e; exact r.dis b v (by rw [upd_ne hb]; exact e)
  · obtain ⟨h1, h2, w, h3, h4⟩ := r.mo b v e
    have hb : b ≠ p := fun q => by rw [q, upd_same] at h2; cases h2
    rw [upd_ne hb] at h2
    exact ⟨h1, by rw [upd_ne hb]; exact h2, w, by rw [upd_ne hb]; exact h3, h4⟩
/-- it leaves the frame again -/
theorem Rep.show (r : Rep K G H (upd F p o) m) (hF : F p = none) : Rep K G H F m := by
  refine ⟨r.ext, fun b v e => ?_, fun b v e => ?_, fun b v e => ?_⟩
  · exact r.frm b v (by rw [upd_ne (fun q => by rw [q, hF] at e; cases e)]; exact e)
  · exact r.dis b v (by rw [upd_ne (fun q => by rw [q, hF] at e; cases e)]; exact e)
  · obtain ⟨h1, h2, w, h3, h4⟩ := r.mo b v e
    have hb : b ≠ p := fun q => by rw [q, upd_same] at h2; cases h2
    rw [upd_ne hb] at h2
    exact ⟨h1, h2, w, h3, h4⟩
/-- out of the frame: a list known for ever -/
theorem Rep.outL {ds : List D} {vs : List V} (r : Rep K G H (upd F p (.lst vs)) m) (hF : F p = none) (rs : Rps K G ds vs) : Same G (upd G p (.lst vs)) ∧ Rep K (upd G p (.lst vs)) H F m ∧ Rp K (upd G p (.lst vs)) (.lst ds) (.ref p) := by
  have g : G p = none := r.dis p _ upd_same
  have sm : Same G (upd G p (.lst vs)) := same_new g
  refine ⟨sm, ⟨fun b v e => ?_, (r.show hF).frm, fun b v e => ?_, fun b v e => ?_⟩, .lst upd_same (rs.mono sm)⟩
  · by_cases hb : b = p
    · subst hb; rw [upd_same] at e; rw [← e]; exact r.frm _ _ upd_same
    · rw [upd_ne hb] at e; exact r.ext b v e
  · rw [upd_ne (fun q => by rw [q, hF] at e; cases e)]; exact (r.show hF).dis b v e
  · obtain ⟨h1, h2, w, h3, h4⟩ := r.mo b v e
    have hb : b ≠ p := fun q => by rw [q, upd_same] at h2; cases h2
    rw [upd_ne hb] at h2
    exact ⟨by rw [upd_ne hb]; exact h1, h2, w, h3, h4.mono sm⟩
/-- .. a mutable list -/
theorem Rep.outM {ds : List D} {vs : List V} (r : Rep K G H (upd F p (.lst vs)) m) (hF : F p = none) (rs : Rps K G ds vs) : m p = none ∧ Rep K G H F (mset m p (.lst ds)) := by
  have g : G p = none := r.dis p _ upd_same
  have mp : m p = none := by
    cases q : m p with
    | none => rfl
    | some w =>
      obtain ⟨_, h2, _⟩ := r.mo p w q
      rw [upd_same] at h2
      cases h2
  refine ⟨mp, r.ext, (r.show hF).frm, (r.show hF).dis, fun b v e => ?_⟩
  by_cases hb : b = p
  · subst hb
    rw [mset_same] at e
    cases e
    exact ⟨g, hF, _, r.frm _ _ upd_same, rs⟩
  · rw [mset_ne hb] at e
    obtain ⟨h1, h2, w, h3, h4⟩ := r.mo b v e
    rw [upd_ne hb] at h2
    exact ⟨h1, h2, w, h3, h4⟩
end

/-! ### slots -/
abbrev DSt := List (Option D)
structure Rs (K : PySem.W.Frag) (G : Hp) (r : DSt) (s : L2.St) : Prop where
  len : r.length = s.length
  at_ : ∀ (i : Nat) (d : D), r[i]? = some (some d) → ∃ v, s[i]? = some (some v) ∧ Rp K G d v
section
variable {K : PySem.W.Frag} {G G' : Hp} {r : DSt} {s : L2.St}
theorem Rs.mono (e : Same G G') (h : Rs K G r s) : Rs K G' r s := ⟨h.len, fun i d q => by
  obtain ⟨v, h1, h2⟩ := h.at_ i d q
  exact ⟨v, h1, h2.mono e⟩⟩
theorem Rs.set (h : Rs K G r s) {i : Nat} {d : D} {v : V} (q : Rp K G d v) : Rs K G (r.set i (some d)) (s.set i (some v)) := ⟨by simp [h.len], fun j e hj => by
  by_cases hi : i = j
  · subst hi
    by_cases hl : i < r.length
    · rw [List.getElem?_set_self hl] at hj
      cases hj
      exact ⟨v, by rw [List.getElem?_set_self (by rw [← h.len]; exact hl)], q⟩
    · rw [List.getElem?_eq_none (by simp; omega)] at hj
      cases hj
  · rw [List.getElem?_set_ne hi] at hj ⊢
    exact h.at_ j e hj⟩
theorem Rs.setG (h : Rs K G r s) {i : Nat} {d : D} (hv : ∀ v, s[i]? = some (some v) → Rp K G d v) (hs : ∃ v : V, s[i]? = some (some v)) : Rs K G (r.set i (some d)) s := ⟨by simp [h.len], fun j e hj => by
  by_cases hi : i = j
  · subst hi
    by_cases hl : i < r.length
    · rw [List.getElem?_set_self hl] at hj
      cases hj
      obtain ⟨v, q⟩ := hs
      exact ⟨v, q, hv v q⟩
    · rw [List.getElem?_eq_none (by simp; omega)] at hj
      cases hj
  · rw [List.getElem?_set_ne hi] at hj
    exact h.at_ j e hj⟩
end
end DL

set_option Elab.async false
set_option linter.all false
set_option maxRecDepth 100000
set_option maxHeartbeats 4000000
namespace DL
open PySem PySem.Spec PyProof.Rows L2

/-! ### readings over deep data -/
abbrev DTE := DSt → M → (D → M → Prop) → Prop
abbrev DTT := DSt → M → (Bool → M → Prop) → Prop
abbrev DTA := DSt → M → (List D → M → Prop) → Prop
abbrev DO := DSt → M → (Option Int → M → Prop) → Prop
structure XD where
  C : Addr
  fs : List (Str × D)
abbrev DWX := XD → DSt → M → Prop
def RpX (K : PySem.W.Frag) (G : Hp) (d : Option Addr) (fs : List (Str × D)) : Prop := (d = none ∧ fs = []) ∨ ∃ dd fv, d = some dd ∧ G dd = some (.xd fv) ∧ Rpf K G fs fv
theorem RpX.mono {K : PySem.W.Frag} {G G' : Hp} {d : Option Addr} {fs : List (Str × D)} (e : Same G G') (h : RpX K G d fs) : RpX K G' d fs := by
  rcases h with h | ⟨dd, fv, h1, h2, h3⟩
  · exact .inl h
  · exact .inr ⟨dd, fv, h1, e _ _ h2, h3.mono e⟩
/-- what is wished of an exception: deep, and of the layer -/
def Lx (K : PySem.W.Frag) (W : WX) (WD : DWX) (G F : Hp) : Prop :=
  ∀ (G' H' : Hp) (m' : M) (r' : DSt) (s' : L2.St) (C : Addr) (fs : List (Str × D)) (d : Option Addr), Same G G' → Rep K G' H' F m' → Rs K G' r' s' → RpX K G' d fs → WD ⟨C, fs⟩ r' m' → W (.ref C) d s' H'
theorem Lx.mono {K : PySem.W.Frag} {W : WX} {WD : DWX} {G G' F : Hp} (e : Same G G') (h : Lx K W WD G F) : Lx K W WD G' F := fun G2 H2 m2 r2 s2 C fs d e2 => h G2 H2 m2 r2 s2 C fs d (e.trans e2)
theorem Lx.no {K : PySem.W.Frag} {W : WX} {G F : Hp} : Lx K W (fun _ _ _ => False) G F := fun _ _ _ _ _ _ _ _ _ _ _ _ h => h.elim
/-- what follows a value -/
def Kv (K : PySem.W.Frag) (G F : Hp) (QD : D → M → Prop) (Q : VK) : Prop := ∀ (G' H' : Hp) (m' : M) (d : D) (v : V), Same G G' → Rep K G' H' F m' → Rp K G' d v → QD d m' → Q v H'
theorem Kv.mono {K : PySem.W.Frag} {G G' F : Hp} {QD : D → M → Prop} {Q : VK} (e : Same G G') (h : Kv K G F QD Q) : Kv K G' F QD Q := fun G2 H2 m2 d v e2 => h G2 H2 m2 d v (e.trans e2)
structure Sx (K : PySem.W.Frag) (W : WX) (WD : DWX) (G H F : Hp) (r : DSt) (s : L2.St) (m : M) : Prop where
  rep : Rep K G H F m
  rs : Rs K G r s
  lx : Lx K W WD G F
theorem Sx.step {K : PySem.W.Frag} {W : WX} {WD : DWX} {G G' H H' F : Hp} {r : DSt} {s : L2.St} {m m' : M} (x : Sx K W WD G H F r s m) (e : Same G G') (h : Rep K G' H' F m') : Sx K W WD G' H' F r s m' := ⟨h, x.rs.mono e, x.lx.mono e⟩
def up (K : PySem.W.Frag) (W : WX) (WD : DWX) (t : DTE) : TE := fun σ H Q => ∃ (G F : Hp) (r : DSt) (m : M) (QD : D → M → Prop), Sx K W WD G H F r σ m ∧ t r m QD ∧ Kv K G F QD Q
def upT (K : PySem.W.Frag) (W : WX) (WD : DWX) (t : DTT) : TT := fun σ H Q => ∃ (G F : Hp) (r : DSt) (m : M) (QD : Bool → M → Prop), Sx K W WD G H F r σ m ∧ t r m QD ∧ ∀ G' H' m' b, Same G G' → Rep K G' H' F m' → QD b m' → Q b H'
def upA (K : PySem.W.Frag) (W : WX) (WD : DWX) (t : DTA) : TA := fun σ H Q => ∃ (G F : Hp) (r : DSt) (m : M) (QD : List D → M → Prop), Sx K W WD G H F r σ m ∧ t r m QD ∧ ∀ G' H' m' ds vs, Same G G' → Rep K G' H' F m' → Rps K G' ds vs → QD ds m' → Q vs H'
def upO (K : PySem.W.Frag) (W : WX) (WD : DWX) (t : DO) : TO := fun σ H Q => ∃ (G F : Hp) (r : DSt) (m : M) (QD : Option Int → M → Prop), Sx K W WD G H F r σ m ∧ t r m QD ∧ ∀ G' H' m' o, Same G G' → Rep K G' H' F m' → QD o m' → Q o H'
abbrev DE (X : Cx) (W : WX) (WD : DWX) (e : Expr) (t : DTE) : Prop := PE X e (up X.K W WD t)
abbrev DT (X : Cx) (W : WX) (WD : DWX) (e : Expr) (t : DTT) : Prop := PT X e (upT X.K W WD t)
abbrev DW (X : Cx) (W : WX) (WD : DWX) (e : Expr) (t : DTT) : Prop := PW X e (upT X.K W WD t)
abbrev DA (X : Cx) (W : WX) (WD : DWX) (es : List Expr) (t : DTA) : Prop := PA X es (upA X.K W WD t)
abbrev DOp (X : Cx) (W : WX) (WD : DWX) (e : Option Expr) (t : DO) : Prop := PO X e (upO X.K W WD t)
section
variable {X : Cx} {e : Expr}
theorem PE.imp {t t' : TE} (h : PE X e t) (i : ∀ σ H Q, t' σ H Q → t σ H Q) : PE X e t' := ⟨fun pins s σ H Q I q => h.run pins s σ H Q I (i σ H Q q)⟩
theorem PT.imp {t t' : TT} (h : PT X e t) (i : ∀ σ H Q, t' σ H Q → t σ H Q) : PT X e t' := ⟨fun pins s σ H Q I q => h.run pins s σ H Q I (i σ H Q q)⟩
theorem PW.imp {t t' : TT} (h : PW X e t) (i : ∀ σ H Q, t' σ H Q → t σ H Q) : PW X e t' := ⟨fun wh pins s σ H Q I q => h.run wh pins s σ H Q I (i σ H Q q)⟩
theorem PA.imp {es : List Expr} {t t' : TA} (h : PA X es t) (i : ∀ σ H Q, t' σ H Q → t σ H Q) : PA X es t' := ⟨fun pos pins s σ H Q I q => h.run pos pins s σ H Q I (i σ H Q q)⟩
theorem PO.imp {e : Option Expr} {t t' : TO} (h : PO X e t) (i : ∀ σ H Q, t' σ H Q → t σ H Q) : PO X e t' := ⟨fun pins s σ H Q I q => h.run pins s σ H Q I (i σ H Q q)⟩
end

/-! ### names, constants -/
def slot : DSt → Nat → Option D
  | [], _ => none
  | x :: _, 0 => x
  | _ :: r, n + 1 => slot r n
theorem slot_get : ∀ {r : DSt} {i : Nat} {d : D}, slot r i = some d → r[i]? = some (some d)
  | [], _, _, e => nomatch e
  | x :: r, 0, d, e => by
    have e' : x = some d := e
    rw [e']; rfl
  | x :: r, i + 1, d, e => by
    have := slot_get (r := r) (i := i) (d := d) e
    simpa using this
def dVar (i : Nat) : DTE := fun r m Q => ∃ d, slot r i = some d ∧ Q d m
def dC (d : D) : DTE := fun _ m Q => Q d m
section
variable {X : Cx} {W : WX} {WD : DWX} {pos : Pos}
theorem up_var {K : PySem.W.Frag} {i : Nat} {σ : L2.St} {H : Hp} {Q : VK} (h : up K W WD (dVar i) σ H Q) : tVar i σ H Q := by
  obtain ⟨G, F, r, m, QD, x, ⟨d, e, t⟩, k⟩ := h
  obtain ⟨v, e1, rv⟩ := x.rs.at_ i d (slot_get e)
  exact ⟨v, e1, k G H m d v (Same.refl G) x.rep rv t⟩
theorem up_c {K : PySem.W.Frag} {d : D} {v : V} {σ : L2.St} {H : Hp} {Q : VK} (hv : ∀ G, Rp K G d v) (h : up K W WD (dC d) σ H Q) : tC v σ H Q := by
  obtain ⟨G, F, r, m, QD, x, t, k⟩ := h
  exact k G H m d v (Same.refl G) x.rep (hv G) t
theorem dv (i : Nat) {x : Str} (hN : X.N[i]? = some x := by rfl) (hv : Vis X.env.scope x := by first | exact Or.inl rfl | exact Or.inr (Or.inl rfl) | exact Or.inr (Or.inr rfl)) (hd : (x == ("__debug__" : Str)) = false := by decide)
    (hcd : (x == ("__classdict__" : Str)) = false := by decide) : DE X W WD (.Name x pos) (dVar i) := PE.imp (pv i hN hv hd hcd) fun _ _ _ h => up_var h
theorem de_int {i j} : DE X W WD (.Constant (.int i) j pos) (dC (.int i)) := PE.imp pe_int fun _ _ _ h => up_c (fun _ => .int i) h
theorem de_bl {b j} : DE X W WD (.Constant (.bool b) j pos) (dC (.bl b)) := PE.imp pe_bl fun _ _ _ h => up_c (fun _ => .bl b) h
theorem de_non {j} : DE X W WD (.Constant .none j pos) (dC .non) := PE.imp pe_non fun _ _ _ h => up_c (fun _ => .non) h
theorem de_str {x j} : DE X W WD (.Constant (.str x) j pos) (dC (.str x)) := PE.imp pe_str fun _ _ _ h => up_c (fun _ => .str x) h
theorem de_globI {x : Str} {i : Int} (hg : Gl X x) (hm : ∃ t, X.mg x = some (.int i t)) (hd : (x == ("__debug__" : Str)) = false := by decide) : DE X W WD (.Name x pos) (dC (.int i)) := by
  obtain ⟨t, hm⟩ := hm
  exact PE.imp (pe_glob (v := .int i) hg hm ⟨t, rfl⟩ hd) fun _ _ _ h => up_c (fun _ => .int i) h
theorem de_globS {x z : Str} (hg : Gl X x) (hm : ∃ t, X.mg x = some (.str z t)) (hd : (x == ("__debug__" : Str)) = false := by decide) : DE X W WD (.Name x pos) (dC (.str z)) := by
  obtain ⟨t, hm⟩ := hm
  exact PE.imp (pe_glob (v := .str z) hg hm ⟨t, rfl⟩ hd) fun _ _ _ h => up_c (fun _ => .str z) h
theorem de_globR {x : Str} {a : Addr} (hg : Gl X x) (hm : X.mg x = some (.ref a)) (hd : (x == ("__debug__" : Str)) = false := by decide) : DE X W WD (.Name x pos) (dC (.ref a)) :=
  PE.imp (pe_glob (v := .ref a) hg hm rfl hd) fun _ _ _ h => up_c (fun _ => .ref a) h
theorem de_ty {x : Str} {T : String} (hg : Gl X x) (hm : X.mg x = none) (hv : bootBuiltins x = some (.type T)) (hn : x ≠ "__name__" := by decide) (hd : (x == ("__debug__" : Str)) = false := by decide) : DE X W WD (.Name x pos) (dC (.ty T)) :=
  PE.imp (pe_bltn (v := .ty T) hg hm hv rfl hn hd) fun _ _ _ h => up_c (fun _ => .ty T) h
end

/-! ### operators by values -/
abbrev DR2 := D → D → M → (D → M → Prop) → Prop
def OpD (K : PySem.W.Frag) (r : R2) (rd : DR2) : Prop :=
  ∀ (G H F : Hp) (m : M) (x y : D) (vx vy : V) (QD : D → M → Prop) (Q : VK), Rep K G H F m → Rp K G x vx → Rp K G y vy → rd x y m QD → Kv K G F QD Q → r vx vy H Q
def dOp (rd : DR2) (ta tb : DTE) : DTE := fun r m Q => ta r m fun x m1 => tb r m1 fun y m2 => rd x y m2 Q
theorem up_op {K : PySem.W.Frag} {W : WX} {WD : DWX} {r : R2} {rd : DR2} {ta tb : DTE} {σ : L2.St} {H : Hp} {Q : VK} (hd : OpD K r rd) (h : up K W WD (dOp rd ta tb) σ H Q) : tOp r (up K W WD ta) (up K W WD tb) σ H Q := by
  obtain ⟨G, F, ρ, m, QD, x, t, k⟩ := h
  refine ⟨G, F, ρ, m, _, x, t, fun G1 H1 m1 d1 v1 e1 r1 p1 t1 => ?_⟩
  refine ⟨G1, F, ρ, m1, _, x.step e1 r1, t1, fun G2 H2 m2 d2 v2 e2 r2 p2 t2 => ?_⟩
  exact hd G2 H2 F m2 d1 d2 v1 v2 QD Q r2 (p1.mono e2) p2 t2 (k.mono (e1.trans e2))
abbrev DR1 := D → M → (D → M → Prop) → Prop
def UnD (K : PySem.W.Frag) (r : V → Hp → VK → Prop) (rd : DR1) : Prop :=
  ∀ (G H F : Hp) (m : M) (x : D) (vx : V) (QD : D → M → Prop) (Q : VK), Rep K G H F m → Rp K G x vx → rd x m QD → Kv K G F QD Q → r vx H Q
def dUn (rd : DR1) (ta : DTE) : DTE := fun r m Q => ta r m fun x m1 => rd x m1 Q
theorem up_un {K : PySem.W.Frag} {W : WX} {WD : DWX} {r : V → Hp → VK → Prop} {rd : DR1} {ta : DTE} {σ : L2.St} {H : Hp} {Q : VK} (hd : UnD K r rd) (h : up K W WD (dUn rd ta) σ H Q) : tUn r (up K W WD ta) σ H Q := by
  obtain ⟨G, F, ρ, m, QD, x, t, k⟩ := h
  exact ⟨G, F, ρ, m, _, x, t, fun G1 H1 m1 d1 v1 e1 r1 p1 t1 => hd G1 H1 F m1 d1 v1 QD Q r1 p1 t1 (k.mono e1)⟩
/-- the value is at hand, nothing new -/
theorem Kv.here {K : PySem.W.Frag} {G H F : Hp} {m : M} {QD : D → M → Prop} {Q : VK} {d : D} {v : V} (k : Kv K G F QD Q) (r : Rep K G H F m) (p : Rp K G d v) (q : QD d m) : Q v H := k G H m d v (Same.refl G) r p q
/-- a new list, frozen or not -/
def mkL (mt : Bool) (ds : List D) (m : M) (Q : D → M → Prop) : Prop := match mt with
  | true => ∀ p, m p = none → Q (.ref p) (mset m p (.lst ds))
  | false => Q (.lst ds) m
theorem mkL_ok {K : PySem.W.Frag} {G H F : Hp} {m : M} {QD : D → M → Prop} {Q : VK} {mt : Bool} {ds : List D} {vs : List V} {p : Addr} (k : Kv K G F QD Q) (r : Rep K G H F m) (rs : Rps K G ds vs) (h : H p = none) (q : mkL mt ds m QD) : Q (.ref p) (upd H p (.lst vs)) := by
  cases mt with
  | false =>
    obtain ⟨e, r1⟩ := r.froz (o := .lst vs) h
    exact k _ _ m (.lst ds) _ e r1 (.lst upd_same (rs.mono e)) q
  | true => exact k _ _ _ (.ref p) _ (Same.refl G) (r.newm (u := .lst ds) (o := .lst vs) h rs) (.ref p) (q p (r.mfree h))
theorem mkT_ok {K : PySem.W.Frag} {G H F : Hp} {m : M} {QD : D → M → Prop} {Q : VK} {ds : List D} {vs : List V} {p : Addr} (k : Kv K G F QD Q) (r : Rep K G H F m) (rs : Rps K G ds vs) (h : H p = none) (q : QD (.tup ds) m) : Q (.ref p) (upd H p (.tup vs)) := by
  obtain ⟨e, r1⟩ := r.froz (o := .tup vs) h
  exact k _ _ m (.tup ds) _ e r1 (.tup (SqT.of upd_same) (rs.mono e)) q

/-! ### arithmetic -/
def MulOk (i j : Int) : Prop := CMul i j ∨ CMulW i j
def dAdd (mt : Bool) : DR2
  | .int i, .int j, m, Q => Q (.int (i + j)) m
  | .str a, .str b, m, Q => a.length + b.length ≤ sizeLine ∧ Q (.str (a ++ b)) m
  | .lst a, .lst b, m, Q => a.length + b.length ≤ sizeLine ∧ mkL mt (a ++ b) m Q
  | .ref a, .lst b, m, Q => ∃ xs, m a = some (.lst xs) ∧ xs.length + b.length ≤ sizeLine ∧ mkL mt (xs ++ b) m Q
  | _, _, _, _ => False
def dSub : DR2
  | .int i, .int j, m, Q => Q (.int (i - j)) m
  | _, _, _, _ => False
def dMul (mt : Bool) : DR2
  | .int i, .int j, m, Q => MulOk i j ∧ Q (.int (i * j)) m
  | .lst a, .int k, m, Q => (-(2 ^ 63) ≤ k ∧ k < 2 ^ 63) ∧ a.length * k.toNat ≤ sizeLine ∧ mkL mt (List.replicate k.toNat a).flatten m Q
  | _, _, _, _ => False
def dDiv : DR2
  | .int i, .int j, m, Q => CDivW i j ∧ Q (.int (i / j)) m
  | _, _, _, _ => False
def dMod : DR2
  | .int i, .int j, m, Q => 0 < j ∧ Q (.int (i % j)) m
  | _, _, _, _ => False
def dPow : DR2
  | .int i, .int j, m, Q => CPow i j ∧ Q (.int (i ^ j.toNat)) m
  | _, _, _, _ => False
def dNeg : DR1
  | .int i, m, Q => Q (.int (-i)) m
  | _, _, _ => False
section
variable {K : PySem.W.Frag} {X : Cx} {W : WX} {WD : DWX} {a b : Expr} {ta tb : DTE} {pos : Pos}
def rAddA (K : PySem.W.Frag) : R2 := fun x y H Q => rI0 (fun i j => .int (i + j)) x y H Q ∨ (∃ i j, x = .str i ∧ y = .str j ∧ i.length + j.length ≤ sizeLine ∧ Q (.str (i ++ j)) H) ∨ rCat x y H Q
theorem op_addA : OpR X (binaryOp .Add) (rAddA X.K) := op_add.or (op_add_str.or op_cat)
theorem od_add (mt : Bool) : OpD K (rAddA K) (dAdd mt) := by
  intro G H F m x y vx vy QD Q r px py t k
  cases x with
  | int i => cases y with
    | int j => cases px; cases py; exact .inl ⟨i, j, rfl, rfl, k.here r (.int _) t⟩
    | _ => exact t.elim
  | str i => cases y with
    | str j => cases px; cases py; exact .inr (.inl ⟨i, j, rfl, rfl, t.1, k.here r (.str _) t.2⟩)
    | _ => exact t.elim
  | lst xs => cases y with
    | lst ys =>
      cases px with | lst h1 r1 => cases py with | lst h2 r2 =>
      refine .inr (.inr ⟨_, _, _, _, rfl, rfl, r.ext _ _ h1, r.ext _ _ h2, by rw [← r1.length, ← r2.length]; exact t.1, fun p hp => ?_⟩)
      exact mkL_ok k r (r1.append r2) hp t.2
    | _ => exact t.elim
  | ref a => cases y with
    | lst ys =>
      cases px; cases py with | lst h2 r2 =>
      obtain ⟨xs, hm, hz, t⟩ := t
      obtain ⟨_, _, u, h1, h4⟩ := r.mo a _ hm
      obtain ⟨vs, rfl, r1⟩ := h4.ofLst
      refine .inr (.inr ⟨_, _, _, _, rfl, rfl, h1, r.ext _ _ h2, by rw [← r1.length, ← r2.length]; exact hz, fun p hp => ?_⟩)
      exact mkL_ok k r (r1.append r2) hp t
    | _ => exact t.elim
  | _ => exact t.elim
theorem od_I {C : Int → Int → Prop} {g : Int → Int → Int} {rd : DR2} (h1 : ∀ i j m Q, rd (.int i) (.int j) m Q → C i j ∧ Q (.int (g i j)) m) (h2 : ∀ x y m Q, rd x y m Q → ∃ i j, x = .int i ∧ y = .int j) : OpD K (rI C fun i j => .int (g i j)) rd := by
  intro G H F m x y vx vy QD Q r px py t k
  obtain ⟨i, j, rfl, rfl⟩ := h2 _ _ _ _ t
  cases px; cases py
  exact ⟨i, j, rfl, rfl, (h1 _ _ _ _ t).1, k.here r (.int _) (h1 _ _ _ _ t).2⟩
theorem od_I0 {g : Int → Int → Int} {rd : DR2} (h1 : ∀ i j m Q, rd (.int i) (.int j) m Q → Q (.int (g i j)) m) (h2 : ∀ x y m Q, rd x y m Q → ∃ i j, x = .int i ∧ y = .int j) : OpD K (rI0 fun i j => .int (g i j)) rd := by
  intro G H F m x y vx vy QD Q r px py t k
  obtain ⟨i, j, rfl, rfl⟩ := h2 _ _ _ _ t
  cases px; cases py
  exact ⟨i, j, rfl, rfl, k.here r (.int _) (h1 _ _ _ _ t)⟩
theorem od_sub : OpD K (rI0 fun i j => .int (i - j)) dSub := od_I0 (fun _ _ _ _ h => h) fun x y _ _ h => by
  cases x <;> cases y <;> first | exact ⟨_, _, rfl, rfl⟩ | exact h.elim
theorem od_div : OpD K (rI CDivW fun i j => .int (i / j)) dDiv := od_I (fun _ _ _ _ h => h) fun x y _ _ h => by
  cases x <;> cases y <;> first | exact ⟨_, _, rfl, rfl⟩ | exact h.elim
theorem od_mod : OpD K (rI (fun _ j => 0 < j) fun i j => .int (i % j)) dMod := od_I (fun _ _ _ _ h => h) fun x y _ _ h => by
  cases x <;> cases y <;> first | exact ⟨_, _, rfl, rfl⟩ | exact h.elim
theorem od_pow : OpD K (rI CPow fun i j => .int (i ^ j.toNat)) dPow := od_I (fun _ _ _ _ h => h) fun x y _ _ h => by
  cases x <;> cases y <;> first | exact ⟨_, _, rfl, rfl⟩ | exact h.elim
def rMulA : R2 := fun x y H Q => rI CMul (fun i j => .int (i * j)) x y H Q ∨ rI CMulW (fun i j => .int (i * j)) x y H Q ∨ rRep x y H Q
theorem op_mulA : OpR X (binaryOp .Mult) rMulA := op_mul.or (op_mulW.or op_rep)
theorem flat_rep {G : Hp} {ds : List D} {vs : List V} (h : Rps K G ds vs) : ∀ n : Nat, Rps K G (List.replicate n ds).flatten (List.replicate n vs).flatten
  | 0 => .nil
  | n + 1 => by
    rw [List.replicate_succ, List.replicate_succ, List.flatten_cons, List.flatten_cons]
    exact h.append (flat_rep h n)
theorem od_mul (mt : Bool) : OpD K rMulA (dMul mt) := by
  intro G H F m x y vx vy QD Q r px py t k
  cases x with
  | int i => cases y with
    | int j =>
      cases px; cases py
      rcases t.1 with c | c
      · exact .inl ⟨i, j, rfl, rfl, c, k.here r (.int _) t.2⟩
      · exact .inr (.inl ⟨i, j, rfl, rfl, c, k.here r (.int _) t.2⟩)
    | _ => exact t.elim
  | lst xs => cases y with
    | int j =>
      cases py
      cases px with | lst h1 r1 =>
      obtain ⟨⟨t1, t2⟩, t3, t4⟩ := t
      refine .inr (.inr ⟨_, j, _, rfl, rfl, r.ext _ _ h1, t1, t2, by rw [← r1.length]; exact t3, fun p hp => ?_⟩)
      exact mkL_ok k r (flat_rep r1 _) hp t4
    | _ => exact t.elim
  | _ => exact t.elim
theorem ud_neg : UnD K (rU fun i => .int (-i)) dNeg := by
  intro G H F m x vx QD Q r px t k
  cases x with
  | int i => cases px; exact ⟨i, rfl, k.here r (.int _) t⟩
  | _ => exact t.elim
theorem de_add (mt : Bool) (ha : DE X W WD a ta) (hb : DE X W WD b tb) : DE X W WD (.BinOp a .Add b pos) (dOp (dAdd mt) ta tb) := PE.imp (pe_op op_addA ha hb) fun _ _ _ h => up_op (od_add mt) h
theorem de_sub (ha : DE X W WD a ta) (hb : DE X W WD b tb) : DE X W WD (.BinOp a .Sub b pos) (dOp dSub ta tb) := PE.imp (pe_op op_sub ha hb) fun _ _ _ h => up_op od_sub h
theorem de_mul (mt : Bool) (ha : DE X W WD a ta) (hb : DE X W WD b tb) : DE X W WD (.BinOp a .Mult b pos) (dOp (dMul mt) ta tb) := PE.imp (pe_op op_mulA ha hb) fun _ _ _ h => up_op (od_mul mt) h
theorem de_div (ha : DE X W WD a ta) (hb : DE X W WD b tb) : DE X W WD (.BinOp a .FloorDiv b pos) (dOp dDiv ta tb) := PE.imp (pe_op op_fdivW ha hb) fun _ _ _ h => up_op od_div h
theorem de_mod (ha : DE X W WD a ta) (hb : DE X W WD b tb) : DE X W WD (.BinOp a .Mod b pos) (dOp dMod ta tb) := PE.imp (pe_op op_mod ha hb) fun _ _ _ h => up_op od_mod h
theorem de_pow (ha : DE X W WD a ta) (hb : DE X W WD b tb) : DE X W WD (.BinOp a .Pow b pos) (dOp dPow ta tb) := PE.imp (pe_op op_pow ha hb) fun _ _ _ h => up_op od_pow h
theorem de_neg (ha : DE X W WD a ta) : DE X W WD (.UnaryOp .USub a pos) (dUn dNeg ta) := PE.imp (pe_un un_neg ha) fun _ _ _ h => up_un ud_neg h
end

/-! ### equality of data -/
mutual
def toP : D → Option PyData
  | .non => some .none
  | .bl b => some (.bool b)
  | .int i => some (.int i)
  | .str x => some (.str x)
  | .lst xs => (toPs xs).map .list
  | .rdl xs => (toPs xs).map .list
  | .tup xs => (toPs xs).map .tuple
  | .ty _ => none
  | .ref _ => none
  | .ins _ _ => none
  | .exn _ _ _ => none
def toPs : List D → Option (List PyData)
  | [] => some []
  | x :: xs => (toP x).bind fun d => (toPs xs).map fun ds => d :: ds
end
mutual
theorem dp_of {K : PySem.W.Frag} {G : Hp} : ∀ (d : D) (p : PyData) (v : V), toP d = some p → Rp K G d v → Dp K G v p
  | .non, p, v, e, r => by cases e; cases r; exact .non
  | .bl b, p, v, e, r => by cases e; cases r; exact .bl b
  | .int i, p, v, e, r => by cases e; cases r; exact .int i
  | .str x, p, v, e, r => by cases e; cases r; exact .str x
  | .lst xs, p, v, e, r => by
    unfold toP at e
    cases q : toPs xs with
    | none => rw [q] at e; cases e
    | some ps =>
      rw [q] at e; cases e
      cases r with | lst h1 r1 => exact .lst (SqL.of h1) (dps_of xs ps _ q r1)
  | .rdl xs, p, v, e, r => by
    unfold toP at e
    cases q : toPs xs with
    | none => rw [q] at e; cases e
    | some ps =>
      rw [q] at e; cases e
      cases r with | rdl h1 r1 => exact .lst h1 (dps_of xs ps _ q r1)
  | .tup xs, p, v, e, r => by
    unfold toP at e
    cases q : toPs xs with
    | none => rw [q] at e; cases e
    | some ps =>
      rw [q] at e; cases e
      cases r with | tup h1 r1 => exact .tup h1 (dps_of xs ps _ q r1)
  | .ty _, p, v, e, r => by unfold toP at e; cases e
  | .ref _, p, v, e, r => by unfold toP at e; cases e
  | .ins _ _, p, v, e, r => by unfold toP at e; cases e
  | .exn _ _ _, p, v, e, r => by unfold toP at e; cases e
theorem dps_of {K : PySem.W.Frag} {G : Hp} : ∀ (ds : List D) (ps : List PyData) (vs : List V), toPs ds = some ps → Rps K G ds vs → DpAll K G vs ps
  | [], ps, vs, e, r => by unfold toPs at e; cases e; cases r; exact .nil
  | x :: xs, ps, vs, e, r => by
    unfold toPs at e
    cases q : toP x with
    | none => rw [q] at e; cases e
    | some d =>
      rw [q] at e
      cases q2 : toPs xs with
      | none => rw [q2] at e; cases e
      | some ds =>
        rw [q2] at e; cases e
        cases r with | cons r1 r2 => exact .cons (dp_of x d _ q r1) (dps_of xs ds _ q2 r2)
end
mutual
theorem Dp.same {K : PySem.W.Frag} {G H : Hp} (e : Same G H) : ∀ {v : V} {p : PyData}, Dp K G v p → Dp K H v p
  | _, _, .non => .non
  | _, _, .bl b => .bl b
  | _, _, .int i => .int i
  | _, _, .str x => .str x
  | _, _, .lst h r => .lst (e.seq h) (DpAll.same e r)
  | _, _, .tup h r => .tup (same_sqt e h) (DpAll.same e r)
theorem DpAll.same {K : PySem.W.Frag} {G H : Hp} (e : Same G H) : ∀ {v : List V} {p : List PyData}, DpAll K G v p → DpAll K H v p
  | _, _, .nil => .nil
  | _, _, .cons a b => .cons (Dp.same e a) (DpAll.same e b)
end
/-- a value as data: a mutable list is read as it stands (flat: its items hold no mutable ones) -/
def datOf (m : M) : D → Option PyData
  | .ref a => (m a).bind fun o => match o with
    | .lst xs => (toPs xs).map .list
    | _ => none
  | d => toP d
theorem dat_ok {K : PySem.W.Frag} {G H F : Hp} {m : M} {d : D} {v : V} {p : PyData} (r : Rep K G H F m) (h : Rp K G d v) (e : datOf m d = some p) : Dp K H v p := by
  cases d with
  | ref a =>
    cases h
    dsimp only [datOf] at e
    cases q : m a with
    | none => rw [q] at e; cases e
    | some o =>
      rw [q] at e
      cases o with
      | lst xs =>
        obtain ⟨_, _, u, h3, h4⟩ := r.mo a _ q
        obtain ⟨vs, rfl, h4⟩ := h4.ofLst
        have e2 : (toPs xs).map PyData.list = some p := e
        cases q2 : toPs xs with
        | none => rw [q2] at e2; cases e2
        | some ps =>
          rw [q2] at e2; cases e2
          exact .lst (SqL.of h3) (DpAll.same r.ext (dps_of xs ps vs q2 h4))
      | _ => cases e
  | _ => exact Dp.same r.ext (dp_of _ p v e h)
/-- == of scalars at once, of other data by their form -/
def dEqB : D → D → Option Bool
  | .int i, .int j => some (decide (i = j))
  | .str i, .str j => some (decide (i = j))
  | .bl i, .bl j => some (decide (i = j))
  | .non, .non => some true
  | .non, .int _ => some false
  | .int _, .non => some false
  | .non, .str _ => some false
  | .str _, .non => some false
  | .non, .bl _ => some false
  | .bl _, .non => some false
  | .int _, .str _ => some false
  | .str _, .int _ => some false
  | _, _ => none
def dEq : DR2 := fun x y m Q => match dEqB x y with
  | some b => Q (.bl b) m
  | none => ∃ p q, datOf m x = some p ∧ datOf m y = some q ∧ SeqAt.shaped p = true ∧ SeqAt.shaped q = true ∧ Q (.bl (PyData.eqv p q)) m
def dNe : DR2 := fun x y m Q => match dEqB x y with
  | some b => Q (.bl (!b)) m
  | none => ∃ p q, datOf m x = some p ∧ datOf m y = some q ∧ SeqAt.shaped p = true ∧ SeqAt.shaped q = true ∧ Q (.bl (!PyData.eqv p q)) m
section
variable {K : PySem.W.Frag} {X : Cx} {W : WX} {WD : DWX} {a b c : Expr} {ta tb tc : DTE} {pos : Pos}
theorem dEqB_scal {G : Hp} {x y : D} {vx vy : V} {b : Bool} (h : dEqB x y = some b) (px : Rp K G x vx) (py : Rp K G y vy) : scal vx vy = true ∧ decide (vx = vy) = b := by
  cases x <;> cases y <;> first
    | (cases px; cases py; cases h; constructor
       · rfl
       · first | rfl | (simp))
    | cases h
def rEqA (K : PySem.W.Frag) : R2 := fun x y H Q => rEq x y H Q ∨ rEqD K x y H Q
def rNeA (K : PySem.W.Frag) : R2 := fun x y H Q => rNe x y H Q ∨ rNeD K x y H Q
theorem od_eq : OpD K (rEqA K) dEq := by
  intro G H F m x y vx vy QD Q r px py t k
  unfold dEq at t
  cases e : dEqB x y with
  | some b =>
    rw [e] at t
    obtain ⟨h1, h2⟩ := dEqB_scal e px py
    exact .inl ⟨h1, by rw [h2]; exact k.here r (.bl _) t⟩
  | none =>
    rw [e] at t
    obtain ⟨p, q, e1, e2, s1, s2, t⟩ := t
    exact .inr ⟨p, q, dat_ok r px e1, dat_ok r py e2, s1, s2, k.here r (.bl _) t⟩
theorem od_ne : OpD K (rNeA K) dNe := by
  intro G H F m x y vx vy QD Q r px py t k
  unfold dNe at t
  cases e : dEqB x y with
  | some b =>
    rw [e] at t
    obtain ⟨h1, h2⟩ := dEqB_scal e px py
    exact .inl ⟨h1, by rw [h2]; exact k.here r (.bl _) t⟩
  | none =>
    rw [e] at t
    obtain ⟨p, q, e1, e2, s1, s2, t⟩ := t
    exact .inr ⟨p, q, dat_ok r px e1, dat_ok r py e2, s1, s2, k.here r (.bl _) t⟩
theorem op_eqA (hu : X.A.units + 64 < cLine) : OpR X (compareOp .Eq) (rEqA X.K) := op_eq.or (op_eqD hu)
theorem op_neA (hu : X.A.units + 64 < cLine) : OpR X (compareOp .NotEq) (rNeA X.K) := op_ne.or (op_neD hu)
/-! ### order -/
def dCmpI (f : Int → Int → Bool) : DR2
  | .int i, .int j, m, Q => Q (.bl (f i j)) m
  | _, _, _, _ => False
theorem od_cmpI {f : Int → Int → Bool} : OpD K (rI0 fun i j => .bl (f i j)) (dCmpI f) := by
  intro G H F m x y vx vy QD Q r px py t k
  cases x with
  | int i => cases y with
    | int j => cases px; cases py; exact ⟨i, j, rfl, rfl, k.here r (.bl _) t⟩
    | _ => exact t.elim
  | _ => exact t.elim
abbrev dLt : DR2 := dCmpI fun i j => decide (i < j)
abbrev dLe : DR2 := dCmpI fun i j => decide (i ≤ j)
abbrev dGt : DR2 := dCmpI fun i j => decide (j < i)
abbrev dGe : DR2 := dCmpI fun i j => decide (j ≤ i)
def dIsN : DR2 := fun x y m Q => y = .non ∧ (match x with
  | .non => Q (.bl true) m
  | _ => Q (.bl false) m)
def dNotN : DR2 := fun x y m Q => y = .non ∧ (match x with
  | .non => Q (.bl false) m
  | _ => Q (.bl true) m)
theorem od_isN : OpD K (fun x y H Q => y = .non ∧ Q (.bl (decide (x = .non))) H) dIsN := by
  intro G H F m x y vx vy QD Q r px py t k
  obtain ⟨rfl, t⟩ := t
  cases py
  refine ⟨rfl, ?_⟩
  cases px <;> exact k.here r (.bl _) t
theorem od_notN : OpD K (fun x y H Q => y = .non ∧ Q (.bl (!decide (x = .non))) H) dNotN := by
  intro G H F m x y vx vy QD Q r px py t k
  obtain ⟨rfl, t⟩ := t
  cases py
  refine ⟨rfl, ?_⟩
  cases px <;> exact k.here r (.bl _) t
/-- a comparison as a value, as a test -/
theorem de_cmp {op : CmpOp} {r : R2} {rd : DR2} (ho : OpR X (compareOp op) r) (hd : OpD X.K r rd) (ha : DE X W WD a ta) (hb : DE X W WD b tb) (hm : behindInMarks op b = false) : DE X W WD (.Compare a [op] [b] pos) (dOp rd ta tb) :=
  PE.imp (pe_cmpR ho ha hb hm) fun _ _ _ h => up_op hd h
def dTest (t : DTE) : DTT := fun r m Q => t r m fun d m1 => ∃ b, d = .bl b ∧ Q b m1
theorem upT_test {K : PySem.W.Frag} {t : DTE} {σ : L2.St} {H : Hp} {Q : Bool → Hp → Prop} (h : upT K W WD (dTest t) σ H Q) : tTest (up K W WD t) σ H Q := by
  obtain ⟨G, F, ρ, m, QD, x, t, k⟩ := h
  refine ⟨G, F, ρ, m, _, x, t, fun G1 H1 m1 d1 v1 e1 r1 p1 t1 => ?_⟩
  obtain ⟨b, rfl, t2⟩ := t1
  cases p1
  exact ⟨b, rfl, k G1 H1 m1 b e1 r1 t2⟩
theorem tTest_imp {t t' : TE} {σ : L2.St} {H : Hp} {Q : Bool → Hp → Prop} (h : tTest t' σ H Q) (i : ∀ Q, t' σ H Q → t σ H Q) : tTest t σ H Q := i _ h
theorem dt_cmp {op : CmpOp} {r : R2} {rd : DR2} (ho : OpR X (compareOp op) r) (hd : OpD X.K r rd) (ha : DE X W WD a ta) (hb : DE X W WD b tb) (hm : behindInMarks op b = false) : DT X W WD (.Compare a [op] [b] pos) (dTest (dOp rd ta tb)) :=
  PT.imp (pt_cmpR ho ha hb hm) fun _ _ _ h => tTest_imp (upT_test h) fun _ q => up_op hd q
def dChain (rd rd' : DR2) (ta tb tc : DTE) : DTE := fun r m Q => ta r m fun x m1 => tb r m1 fun y m2 => rd x y m2 fun z m3 => ∃ k, z = .bl k ∧ (if k = true then tc r m3 fun w m4 => rd' y w m4 Q else Q (.bl false) m3)
theorem up_chain {K : PySem.W.Frag} {r r' : R2} {rd rd' : DR2} {ta tb tc : DTE} {σ : L2.St} {H : Hp} {Q : VK} (hd : OpD K r rd) (hd' : OpD K r' rd') (h : up K W WD (dChain rd rd' ta tb tc) σ H Q) : tChain r r' (up K W WD ta) (up K W WD tb) (up K W WD tc) σ H Q := by
  obtain ⟨G, F, ρ, m, QD, x, t, k⟩ := h
  refine ⟨G, F, ρ, m, _, x, t, fun G1 H1 m1 d1 v1 e1 r1 p1 t1 => ?_⟩
  refine ⟨G1, F, ρ, m1, _, x.step e1 r1, t1, fun G2 H2 m2 d2 v2 e2 r2 p2 t2 => ?_⟩
  refine hd G2 H2 F m2 d1 d2 v1 v2 _ _ r2 (p1.mono e2) p2 t2 fun G3 H3 m3 d3 v3 e3 r3 p3 t3 => ?_
  obtain ⟨b, rfl, t4⟩ := t3
  cases p3
  refine ⟨b, rfl, ?_⟩
  cases b with
  | false => exact k G3 H3 m3 _ _ ((e1.trans e2).trans e3) r3 (.bl _) t4
  | true =>
    refine ⟨G3, F, ρ, m3, _, x.step ((e1.trans e2).trans e3) r3, t4, fun G4 H4 m4 d4 v4 e4 r4 p4 t5 => ?_⟩
    exact hd' G4 H4 F m4 d2 d4 v2 v4 QD Q r4 (p2.mono (e3.trans e4)) p4 t5 (k.mono (((e1.trans e2).trans e3).trans e4))
theorem de_chain {op op' : CmpOp} {r r' : R2} {rd rd' : DR2} (ho : OpR X (compareOp op) r) (hd : OpD X.K r rd) (ho' : OpR X (compareOp op') r') (hd' : OpD X.K r' rd') (ha : DE X W WD a ta) (hb : DE X W WD b tb) (hc : DE X W WD c tc)
    (hm : lastMarks [op, op'] [b, c] = false := by with_unfolding_all rfl) : DE X W WD (.Compare a [op, op'] [b, c] pos) (dChain rd rd' ta tb tc) := PE.imp (pe_chain ho ho' ha hb hc hm) fun _ _ _ h => up_chain hd hd' h
theorem dt_chain {op op' : CmpOp} {r r' : R2} {rd rd' : DR2} (ho : OpR X (compareOp op) r) (hd : OpD X.K r rd) (ho' : OpR X (compareOp op') r') (hd' : OpD X.K r' rd') (ha : DE X W WD a ta) (hb : DE X W WD b tb) (hc : DE X W WD c tc)
    (hm : lastMarks [op, op'] [b, c] = false := by with_unfolding_all rfl) : DT X W WD (.Compare a [op, op'] [b, c] pos) (dTest (dChain rd rd' ta tb tc)) := PT.imp (pt_chain ho ho' ha hb hc hm) fun _ _ _ h => tTest_imp (upT_test h) fun _ q => up_chain hd hd' q
end
/-! ### truth -/
def dTruB (m : M) : D → Option Bool
  | .non => some false
  | .bl b => some b
  | .int i => some (i != 0)
  | .str z => if z.length ≤ sizeLine then some ((z.length : Int) != 0) else none
  | .lst xs => some (!xs.isEmpty)
  | .rdl xs => some (!xs.isEmpty)
  | .tup xs => some (!xs.isEmpty)
  | .ref a => (m a).bind fun o => match o with
    | .lst xs => some (!xs.isEmpty)
    | _ => none
  | _ => none
def dTru (t : DTE) : DTT := fun r m Q => t r m fun d m1 => ∃ b, dTruB m1 d = some b ∧ Q b m1
theorem isEmpty_rps {K : PySem.W.Frag} {G : Hp} {ds : List D} {vs : List V} (h : Rps K G ds vs) : ds.isEmpty = vs.isEmpty := by cases h <;> rfl
theorem tru_of {K : PySem.W.Frag} {G H F : Hp} {m : M} {d : D} {v : V} {b : Bool} (r : Rep K G H F m) (p : Rp K G d v) (e : dTruB m d = some b) : TruV K v H b := by
  cases d with
  | non => cases p; cases e; exact rfl
  | bl x => cases p; cases e; exact rfl
  | int i => cases p; cases e; exact rfl
  | str z =>
    cases p
    dsimp only [dTruB] at e
    by_cases hz : z.length ≤ sizeLine
    · rw [if_pos hz] at e; cases e; exact ⟨hz, rfl⟩
    · rw [if_neg hz] at e; cases e
  | lst xs => cases p with | lst h1 r1 => cases e; exact .inl ⟨_, SqL.of (r.ext _ _ h1), by rw [isEmpty_rps r1]⟩
  | rdl xs => cases p with | rdl h1 r1 => cases e; exact .inl ⟨_, r.ext.seq h1, by rw [isEmpty_rps r1]⟩
  | tup xs => cases p with | tup h1 r1 => cases e; exact .inr (.inl ⟨_, same_sqt r.ext h1, by rw [isEmpty_rps r1]⟩)
  | ref a =>
    cases p
    dsimp only [dTruB] at e
    cases q : m a with
    | none => rw [q] at e; cases e
    | some o =>
      rw [q] at e
      cases o with
      | lst xs =>
        obtain ⟨_, _, u, h3, h4⟩ := r.mo a _ q
        obtain ⟨vs, rfl, h4⟩ := h4.ofLst
        cases e
        exact .inl ⟨_, SqL.of h3, by rw [isEmpty_rps h4]⟩
      | _ => cases e
  | _ => cases e
section
variable {X : Cx} {W : WX} {WD : DWX} {a b : Expr} {ta tb : DTE} {pos : Pos} {t u : DTT} {rest : List Expr}
theorem dt_tru (ha : DE X W WD a ta) (he : ∀ whole, isTrue a X.env whole = (do let v ← whole; standAt a.pos; holding [v] (truthy v)) := by intro _; rfl) : DT X W WD a (dTru ta) := by
  refine PT.imp (pt_truth ha he) fun σ H Q h => ?_
  obtain ⟨G, F, ρ, m, QD, x, t, k⟩ := h
  refine ⟨G, F, ρ, m, _, x, t, fun G1 H1 m1 d1 v1 e1 r1 p1 t1 => ?_⟩
  obtain ⟨b, e, t2⟩ := t1
  exact ⟨b, tru_of r1 p1 e, k G1 H1 m1 b e1 r1 t2⟩
def dAnd (t u : DTT) : DTT := fun r m Q => t r m fun c m1 => if c = true then u r m1 Q else Q false m1
def dOr (t u : DTT) : DTT := fun r m Q => t r m fun c m1 => if c = true then Q true m1 else u r m1 Q
def dNot (t : DTT) : DTT := fun r m Q => t r m fun c m1 => Q (!c) m1
theorem dw_and1 (ha : DT X W WD a t) : DW X W WD (.BoolOp .And [a] pos) t := pw_and1 ha
theorem dw_or1 (ha : DT X W WD a t) : DW X W WD (.BoolOp .Or [a] pos) t := pw_or1 ha
theorem dw_and (ha : DT X W WD a t) (hb : DW X W WD (.BoolOp .And (b :: rest) pos) u) : DW X W WD (.BoolOp .And (a :: b :: rest) pos) (dAnd t u) := by
  refine PW.imp (pw_and ha hb) fun σ H Q h => ?_
  obtain ⟨G, F, ρ, m, QD, x, t, k⟩ := h
  refine ⟨G, F, ρ, m, _, x, t, fun G1 H1 m1 b e1 r1 t1 => ?_⟩
  cases b with
  | false => exact k G1 H1 m1 false e1 r1 t1
  | true => exact ⟨G1, F, ρ, m1, QD, x.step e1 r1, t1, fun G2 H2 m2 b e2 r2 t2 => k G2 H2 m2 b (e1.trans e2) r2 t2⟩
theorem dw_or (ha : DT X W WD a t) (hb : DW X W WD (.BoolOp .Or (b :: rest) pos) u) : DW X W WD (.BoolOp .Or (a :: b :: rest) pos) (dOr t u) := by
  refine PW.imp (pw_or ha hb) fun σ H Q h => ?_
  obtain ⟨G, F, ρ, m, QD, x, t, k⟩ := h
  refine ⟨G, F, ρ, m, _, x, t, fun G1 H1 m1 b e1 r1 t1 => ?_⟩
  cases b with
  | true => exact k G1 H1 m1 true e1 r1 t1
  | false => exact ⟨G1, F, ρ, m1, QD, x.step e1 r1, t1, fun G2 H2 m2 b e2 r2 t2 => k G2 H2 m2 b (e1.trans e2) r2 t2⟩
theorem dt_w (h : DW X W WD a t) : DT X W WD a t := PW.pt h
theorem dt_not (ha : DT X W WD a t) : DT X W WD (.UnaryOp .Not a pos) (dNot t) := by
  refine PT.imp (pt_not ha) fun σ H Q h => ?_
  obtain ⟨G, F, ρ, m, QD, x, t, k⟩ := h
  exact ⟨G, F, ρ, m, _, x, t, fun G1 H1 m1 b e1 r1 t1 => k G1 H1 m1 (!b) e1 r1 t1⟩
/-- .. as values -/
def dAndV (ta tb : DTE) : DTE := fun r m Q => ta r m fun d m1 => ∃ c, d = .bl c ∧ if c = true then tb r m1 Q else Q (.bl false) m1
def dOrV (ta tb : DTE) : DTE := fun r m Q => ta r m fun d m1 => ∃ c, d = .bl c ∧ if c = true then Q (.bl true) m1 else tb r m1 Q
def dNotV (ta : DTE) : DTE := fun r m Q => ta r m fun d m1 => ∃ c, d = .bl c ∧ Q (.bl (!c)) m1
theorem de_one {op} (h : DE X W WD a ta) : DE X W WD (.BoolOp op [a] pos) ta := pe_one h
theorem de_and (ha : DE X W WD a ta) (hb : DE X W WD (.BoolOp .And (b :: rest) pos) tb) : DE X W WD (.BoolOp .And (a :: b :: rest) pos) (dAndV ta tb) := by
  refine PE.imp (pe_and ha hb) fun σ H Q h => ?_
  obtain ⟨G, F, ρ, m, QD, x, t, k⟩ := h
  refine ⟨G, F, ρ, m, _, x, t, fun G1 H1 m1 d1 v1 e1 r1 p1 t1 => ?_⟩
  obtain ⟨c, rfl, t2⟩ := t1
  cases p1
  refine ⟨c, rfl, ?_⟩
  cases c with
  | true => exact ⟨G1, F, ρ, m1, QD, x.step e1 r1, t2, k.mono e1⟩
  | false => exact k G1 H1 m1 _ _ e1 r1 (.bl _) t2
theorem de_or (ha : DE X W WD a ta) (hb : DE X W WD (.BoolOp .Or (b :: rest) pos) tb) : DE X W WD (.BoolOp .Or (a :: b :: rest) pos) (dOrV ta tb) := by
  refine PE.imp (pe_or ha hb) fun σ H Q h => ?_
  obtain ⟨G, F, ρ, m, QD, x, t, k⟩ := h
  refine ⟨G, F, ρ, m, _, x, t, fun G1 H1 m1 d1 v1 e1 r1 p1 t1 => ?_⟩
  obtain ⟨c, rfl, t2⟩ := t1
  cases p1
  refine ⟨c, rfl, ?_⟩
  cases c with
  | false => exact ⟨G1, F, ρ, m1, QD, x.step e1 r1, t2, k.mono e1⟩
  | true => exact k G1 H1 m1 _ _ e1 r1 (.bl _) t2
theorem de_not (ha : DE X W WD a ta) : DE X W WD (.UnaryOp .Not a pos) (dNotV ta) := by
  refine PE.imp (pe_not ha) fun σ H Q h => ?_
  obtain ⟨G, F, ρ, m, QD, x, t, k⟩ := h
  refine ⟨G, F, ρ, m, _, x, t, fun G1 H1 m1 d1 v1 e1 r1 p1 t1 => ?_⟩
  obtain ⟨c, rfl, t2⟩ := t1
  cases p1
  exact ⟨c, rfl, k G1 H1 m1 _ _ e1 r1 (.bl _) t2⟩
def dIf (t : DTT) (ta tb : DTE) : DTE := fun r m Q => t r m fun c m1 => if c = true then ta r m1 Q else tb r m1 Q
theorem de_ifExp {c : Expr} (hc : DT X W WD c t) (ha : DE X W WD a ta) (hb : DE X W WD b tb) : DE X W WD (.IfExp c a b pos) (dIf t ta tb) := by
  refine PE.imp (pe_ifExp hc ha hb) fun σ H Q h => ?_
  obtain ⟨G, F, ρ, m, QD, x, t, k⟩ := h
  refine ⟨G, F, ρ, m, _, x, t, fun G1 H1 m1 b e1 r1 t1 => ?_⟩
  cases b with
  | true => exact ⟨G1, F, ρ, m1, QD, x.step e1 r1, t1, k.mono e1⟩
  | false => exact ⟨G1, F, ρ, m1, QD, x.step e1 r1, t1, k.mono e1⟩
end
end DL

set_option Elab.async false
set_option linter.all false
set_option maxRecDepth 100000
set_option maxHeartbeats 4000000
namespace DL
open PySem PySem.Spec PyProof.Rows L2

/-! ### displays -/
def daNil : DTA := fun _ m Q => Q [] m
def daCons (ta : DTE) (tr : DTA) : DTA := fun r m Q => ta r m fun x m1 => tr r m1 fun xs m2 => Q (x :: xs) m2
section
variable {X : Cx} {W : WX} {WD : DWX} {e : Expr} {es : List Expr} {te : DTE} {t : DTA} {pos : Pos}
theorem da_nil : DA X W WD [] daNil := by
  refine PA.imp pa_nil fun σ H Q h => ?_
  obtain ⟨G, F, ρ, m, QD, x, t, k⟩ := h
  exact k G H m [] [] (Same.refl G) x.rep .nil t
theorem da_cons (ha : DE X W WD e te) (hr : DA X W WD es t) (hs : starEach (e :: es) X.env = (false, eval e X.env) :: starEach es X.env := by rfl) : DA X W WD (e :: es) (daCons te t) := by
  refine PA.imp (pa_cons ha hr hs) fun σ H Q h => ?_
  obtain ⟨G, F, ρ, m, QD, x, t, k⟩ := h
  refine ⟨G, F, ρ, m, _, x, t, fun G1 H1 m1 d1 v1 e1 r1 p1 t1 => ?_⟩
  exact ⟨G1, F, ρ, m1, _, x.step e1 r1, t1, fun G2 H2 m2 ds vs e2 r2 p2 t2 => k G2 H2 m2 (d1 :: ds) (v1 :: vs) (e1.trans e2) r2 (.cons (p1.mono e2) p2) t2⟩
def dTup (t : DTA) : DTE := fun r m Q => t r m fun xs m1 => xs.length ≤ sizeLine ∧ Q (.tup xs) m1
def dLst (mt : Bool) (t : DTA) : DTE := fun r m Q => t r m fun xs m1 => xs.length ≤ sizeLine ∧ mkL mt xs m1 Q
theorem de_tup {x1} (h : DA X W WD es t) : DE X W WD (.Tuple es x1 pos) (dTup t) := by
  refine PE.imp (pe_tup h) fun σ H Q h => ?_
  obtain ⟨G, F, ρ, m, QD, x, t, k⟩ := h
  refine ⟨G, F, ρ, m, _, x, t, fun G1 H1 m1 ds vs e1 r1 p1 t1 => ⟨by rw [← p1.length]; exact t1.1, fun p hp => ?_⟩⟩
  exact mkT_ok (k.mono e1) r1 p1 hp t1.2
theorem de_lst (mt : Bool) (h : DA X W WD es t) : DE X W WD (.List es pos) (dLst mt t) := by
  refine PE.imp (pe_lst h) fun σ H Q h => ?_
  obtain ⟨G, F, ρ, m, QD, x, t, k⟩ := h
  refine ⟨G, F, ρ, m, _, x, t, fun G1 H1 m1 ds vs e1 r1 p1 t1 => ⟨by rw [← p1.length]; exact t1.1, fun p hp => ?_⟩⟩
  exact mkL_ok (k.mono e1) r1 p1 hp t1.2
end

/-! ### lists and tuples that are read -/
def lsOf (m : M) : D → Option (List D)
  | .lst xs => some xs
  | .rdl xs => some xs
  | .ref a => (m a).bind fun o => match o with
    | .lst xs => some xs
    | _ => none
  | _ => none
theorem lsOf_ref {m : M} {a : Addr} {xs : List D} (h : m a = some (.lst xs)) : lsOf m (.ref a) = some xs := by
  dsimp only [lsOf]; rw [h]; rfl
theorem ls_ok {K : PySem.W.Frag} {G H F : Hp} {m : M} {d : D} {v : V} {xs : List D} (r : Rep K G H F m) (p : Rp K G d v) (e : lsOf m d = some xs) : ∃ a vs, v = .ref a ∧ SqL K H a vs ∧ Rps K G xs vs := by
  cases d with
  | lst ys => cases e; cases p with | lst h1 r1 => exact ⟨_, _, rfl, SqL.of (r.ext _ _ h1), r1⟩
  | rdl ys => cases e; cases p with | rdl h1 r1 => exact ⟨_, _, rfl, r.ext.seq h1, r1⟩
  | ref a =>
    cases p
    dsimp only [lsOf] at e
    cases q : m a with
    | none => rw [q] at e; cases e
    | some o =>
      rw [q] at e
      cases o with
      | lst zs =>
        obtain ⟨_, _, u, h3, h4⟩ := r.mo a _ q
        obtain ⟨vs, rfl, h4⟩ := h4.ofLst
        cases e
        exact ⟨_, _, rfl, SqL.of h3, h4⟩
      | _ => cases e
  | _ => cases e
/-- list or tuple -/
def sqOf (m : M) : D → Option (List D)
  | .tup xs => some xs
  | d => lsOf m d
theorem sqOf_ref {m : M} {a : Addr} {xs : List D} (h : m a = some (.lst xs)) : sqOf m (.ref a) = some xs := lsOf_ref h
theorem sq_ok {K : PySem.W.Frag} {G H F : Hp} {m : M} {d : D} {v : V} {xs : List D} (r : Rep K G H F m) (p : Rp K G d v) (e : sqOf m d = some xs) : ∃ a vs, v = .ref a ∧ (SqL K H a vs ∨ SqT K H a vs) ∧ Rps K G xs vs := by
  cases d with
  | tup ys => cases e; cases p with | tup h1 r1 => exact ⟨_, _, rfl, .inr (same_sqt r.ext h1), r1⟩
  | _ =>
    obtain ⟨a, vs, h1, h2, h3⟩ := ls_ok r p e
    exact ⟨a, vs, h1, .inl h2, h3⟩
theorem rps_atI {K : PySem.W.Frag} {G : Hp} {ds : List D} {vs : List V} {i : Int} {d : D} (r : Rps K G ds vs) (h : atI ds i = some d) : ∃ v, atI vs i = some v ∧ Rp K G d v := by
  unfold atI at h ⊢
  rw [← r.length]
  cases q : ixN ds.length i with
  | none => rw [q] at h; cases h
  | some j =>
    rw [q] at h
    exact r.get (i := j) h
def dIx : DR2 := fun x y m Q => ∃ i, y = .int i ∧ match x with
  | .str z => z.length ≤ sizeLine ∧ ∃ c, atI z.cps.toList i = some c ∧ Q (.str ⟨#[c]⟩) m
  | x => ∃ xs d, sqOf m x = some xs ∧ atI xs i = some d ∧ Q d m
section
variable {K : PySem.W.Frag} {X : Cx} {W : WX} {WD : DWX} {a b e : Expr} {ta tb te : DTE} {pos : Pos}
theorem od_ix : OpD K (rIx K) dIx := by
  intro G H F m x y vx vy QD Q r px py t k
  obtain ⟨i, rfl, t⟩ := t
  cases py
  have go : (∃ xs d, sqOf m x = some xs ∧ atI xs i = some d ∧ QD d m) → rIx K vx (.int i) H Q := by
    rintro ⟨xs, d, e, h, t⟩
    obtain ⟨a, vs, rfl, hs, rs⟩ := sq_ok r px e
    obtain ⟨v, h1, h2⟩ := rps_atI rs h
    rcases hs with hs | hs
    · exact .inl ⟨a, vs, i, v, rfl, rfl, hs, h1, k.here r h2 t⟩
    · exact .inr (.inl ⟨a, vs, i, v, rfl, rfl, hs, h1, k.here r h2 t⟩)
  cases x with
  | str z =>
    cases px
    obtain ⟨hz, c, hc, t⟩ := t
    exact .inr (.inr ⟨z, i, c, rfl, rfl, hz, hc, k.here r (.str _) t⟩)
  | _ => exact go t
theorem de_ix (ha : DE X W WD a ta) (hb : DE X W WD b tb) (hs : PlainIx b := by intro _ _; rfl) : DE X W WD (.Subscript a b pos) (dOp dIx ta tb) := PE.imp (pe_ix ix_seq ha hb hs) fun _ _ _ h => up_op od_ix h
/-! ### slices -/
def doNone : DO := fun _ m Q => Q none m
def doSome (t : DTE) : DO := fun r m Q => t r m fun d m1 => ∃ i, d = .int i ∧ Q (some i) m1
theorem do_none : DOp X W WD none doNone := by
  refine PO.imp po_none fun σ H Q h => ?_
  obtain ⟨G, F, ρ, m, QD, x, t, k⟩ := h
  exact k G H m none (Same.refl G) x.rep t
theorem do_some (h : DE X W WD e te) : DOp X W WD (some e) (doSome te) := by
  refine PO.imp (po_some h) fun σ H Q h => ?_
  obtain ⟨G, F, ρ, m, QD, x, t, k⟩ := h
  refine ⟨G, F, ρ, m, _, x, t, fun G1 H1 m1 d1 v1 e1 r1 p1 t1 => ?_⟩
  obtain ⟨i, rfl, t2⟩ := t1
  cases p1
  exact ⟨i, rfl, k G1 H1 m1 (some i) e1 r1 t2⟩
def cutD {α : Type} (xs : List α) (lo hi : Option Int) : List α := (xs.drop (HT.sIx xs.length 0 lo)).take (HT.sIx xs.length xs.length hi - HT.sIx xs.length 0 lo)
theorem cut_rps {G : Hp} {ds : List D} {vs : List V} (r : Rps K G ds vs) (lo hi : Option Int) : Rps K G (cutD ds lo hi) (cutV vs lo hi) := by
  unfold cutD cutV
  rw [r.length]
  exact (r.drop _).take _
def dSl (mt : Bool) (x : D) (lo hi : Option Int) (m : M) (Q : D → M → Prop) : Prop := match x with
  | .str z => z.length ≤ sizeLine ∧ Q (.str (cutS z lo hi)) m
  | .tup xs => ¬ (HT.sIx xs.length 0 lo = 0 ∧ HT.sIx xs.length xs.length hi = xs.length) ∧ Q (.tup (cutD xs lo hi)) m
  | x => ∃ xs, lsOf m x = some xs ∧ mkL mt (cutD xs lo hi) m Q
def rSlA (K : PySem.W.Frag) : V → Option Int → Option Int → Hp → VK → Prop := fun x lo hi H Q => rSlL K x lo hi H Q ∨ rSlT K x lo hi H Q ∨ rSlS x lo hi H Q
theorem sl_any : SlR X (rSlA X.K) := sl_list.or (sl_tup.or sl_str)
theorem sl_ok {G H F : Hp} {m : M} {x : D} {vx : V} {mt : Bool} {lo hi : Option Int} {QD : D → M → Prop} {Q : VK} (r : Rep K G H F m) (px : Rp K G x vx) (t : dSl mt x lo hi m QD) (k : Kv K G F QD Q) : rSlA K vx lo hi H Q := by
  have go : (∃ xs, lsOf m x = some xs ∧ mkL mt (cutD xs lo hi) m QD) → rSlA K vx lo hi H Q := by
    rintro ⟨xs, e, t⟩
    obtain ⟨a, vs, rfl, hs, rs⟩ := ls_ok r px e
    exact .inl ⟨a, vs, rfl, hs, fun p hp => mkL_ok k r (cut_rps rs lo hi) hp t⟩
  cases x with
  | str z => cases px; exact .inr (.inr ⟨z, rfl, t.1, k.here r (.str _) t.2⟩)
  | tup xs =>
    cases px with | tup h1 r1 =>
    refine .inr (.inl ⟨_, _, rfl, same_sqt r.ext h1, by rw [← r1.length]; exact t.1, fun p hp => mkT_ok k r (cut_rps r1 lo hi) hp t.2⟩)
  | _ => exact go t
def dSlice (mt : Bool) (te : DTE) (tl th : DO) : DTE := fun r m Q => te r m fun x m1 => tl r m1 fun l m2 => th r m2 fun u m3 => dSl mt x l u m3 Q
theorem de_slice (mt : Bool) {lo hi : Option Expr} {tl th : DO} {p2 : Pos} (he : DE X W WD e te) (hl : DOp X W WD lo tl) (hu : DOp X W WD hi th) : DE X W WD (.Subscript e (.Slice lo hi none p2) pos) (dSlice mt te tl th) := by
  refine PE.imp (pe_slice sl_any he hl hu) fun σ H Q h => ?_
  obtain ⟨G, F, ρ, m, QD, x, t, k⟩ := h
  refine ⟨G, F, ρ, m, _, x, t, fun G1 H1 m1 d1 v1 e1 r1 p1 t1 => ?_⟩
  refine ⟨G1, F, ρ, m1, _, x.step e1 r1, t1, fun G2 H2 m2 l e2 r2 t2 => ?_⟩
  refine ⟨G2, F, ρ, m2, _, x.step (e1.trans e2) r2, t2, fun G3 H3 m3 u e3 r3 t3 => ?_⟩
  exact sl_ok r3 (p1.mono (e2.trans e3)) t3 (k.mono ((e1.trans e2).trans e3))
/-! ### in -/
def flatD : D → Bool
  | .non => true
  | .bl _ => true
  | .int _ => true
  | .str _ => true
  | _ => false
def eqD : D → D → Bool
  | .non, .non => true
  | .bl a, .bl b => a == b
  | .bl a, .int b => (if a then 1 else 0) == b
  | .int a, .bl b => a == (if b then 1 else 0)
  | .int a, .int b => a == b
  | .str a, .str b => a == b
  | _, _ => false
def inD (x : D) (xs : List D) : Bool := xs.any fun y => eqD y x
theorem flat_ok {G : Hp} {d : D} {v : V} (p : Rp K G d v) (h : flatD d = true) : flatV v = true := by
  cases p <;> first | rfl | cases h
theorem eqD_ok {G : Hp} {d e : D} {v u : V} (p : Rp K G d v) (q : Rp K G e u) (h : flatD d = true) (h2 : flatD e = true) : eqV v u = eqD d e := by
  cases p <;> first | (cases q <;> first | rfl | cases h2) | cases h
theorem flats_ok {G : Hp} : ∀ {ds : List D} {vs : List V}, Rps K G ds vs → ds.all flatD = true → vs.all flatV = true
  | _, _, .nil, _ => rfl
  | _, _, .cons r t, h => by
    rw [List.all_cons, Bool.and_eq_true] at h ⊢
    exact ⟨flat_ok r h.1, flats_ok t h.2⟩
theorem inD_ok {G : Hp} {x : D} {vx : V} (p : Rp K G x vx) (hx : flatD x = true) : ∀ {ds : List D} {vs : List V}, Rps K G ds vs → ds.all flatD = true → inV vx vs = inD x ds
  | _, _, .nil, _ => rfl
  | _, _, .cons (d := d) (v := v) r t, h => by
    rw [List.all_cons, Bool.and_eq_true] at h
    have ih := inD_ok p hx t h.2
    unfold inV inD at ih ⊢
    rw [List.any_cons, List.any_cons, ih, eqD_ok r p h.1 hx]
def dIn (neg : Bool) : DR2 := fun x y m Q => match x, y with
  | .str i, .str j => Q (.bl (if neg then !(!(Builtin.Str.occurrences j i 0 j.length 1).isEmpty) else !(Builtin.Str.occurrences j i 0 j.length 1).isEmpty)) m
  | x, y => ∃ xs, sqOf m y = some xs ∧ flatD x = true ∧ xs.all flatD = true ∧ Q (.bl (if neg then !inD x xs else inD x xs)) m
def rInA (K : PySem.W.Frag) : R2 := fun x y H Q => (∃ i j, x = .str i ∧ y = .str j ∧ Q (.bl (!(Builtin.Str.occurrences j i 0 j.length 1).isEmpty)) H) ∨ rIn K false x y H Q
def rNotInA (K : PySem.W.Frag) : R2 := fun x y H Q => (∃ i j, x = .str i ∧ y = .str j ∧ Q (.bl (!(!(Builtin.Str.occurrences j i 0 j.length 1).isEmpty))) H) ∨ rIn K true x y H Q
theorem op_inA : OpR X (compareOp .In) (rInA X.K) := op_in_str.or op_in_seq
theorem op_notInA : OpR X (compareOp .NotIn) (rNotInA X.K) := op_notin_str.or op_notIn_seq
theorem in_go {G H F : Hp} {m : M} {x y : D} {vx vy : V} {neg : Bool} {QD : D → M → Prop} {Q : VK} (r : Rep K G H F m) (px : Rp K G x vx) (py : Rp K G y vy) (k : Kv K G F QD Q)
    (t : ∃ xs, sqOf m y = some xs ∧ flatD x = true ∧ xs.all flatD = true ∧ QD (.bl (if neg then !inD x xs else inD x xs)) m) : rIn K neg vx vy H Q := by
  obtain ⟨xs, e, f1, f2, t⟩ := t
  obtain ⟨a, vs, rfl, hs, rs⟩ := sq_ok r py e
  refine ⟨a, vs, rfl, hs, flat_ok px f1, flats_ok rs f2, ?_⟩
  rw [inD_ok px f1 rs f2]
  exact k.here r (.bl _) t
theorem od_in : OpD K (rInA K) (dIn false) := by
  intro G H F m x y vx vy QD Q r px py t k
  cases x with
  | str i => cases y with
    | str j => cases px; cases py; exact .inl ⟨i, j, rfl, rfl, k.here r (.bl _) t⟩
    | _ => exact .inr (in_go r px py k t)
  | _ => exact .inr (in_go r px py k t)
theorem od_notIn : OpD K (rNotInA K) (dIn true) := by
  intro G H F m x y vx vy QD Q r px py t k
  cases x with
  | str i => cases y with
    | str j => cases px; cases py; exact .inl ⟨i, j, rfl, rfl, k.here r (.bl _) t⟩
    | _ => exact .inr (in_go r px py k t)
  | _ => exact .inr (in_go r px py k t)
end
/-! ### calls of built-ins -/
abbrev DRC := List D → M → (D → M → Prop) → Prop
def CallD (K : PySem.W.Frag) (r : List V → Hp → VK → Prop) (rd : DRC) : Prop :=
  ∀ (G H F : Hp) (m : M) (ds : List D) (vs : List V) (QD : D → M → Prop) (Q : VK), Rep K G H F m → Rps K G ds vs → rd ds m QD → Kv K G F QD Q → r vs H Q
def dCB (rd : DRC) (t : DTA) : DTE := fun r m Q => t r m fun ds m1 => rd ds m1 Q
theorem up_cb {K : PySem.W.Frag} {W : WX} {WD : DWX} {r : List V → Hp → VK → Prop} {rd : DRC} {t : DTA} {σ : L2.St} {H : Hp} {Q : VK} (hd : CallD K r rd) (h : up K W WD (dCB rd t) σ H Q) : tCB r (upA K W WD t) σ H Q := by
  obtain ⟨G, F, ρ, m, QD, x, t, k⟩ := h
  exact ⟨G, F, ρ, m, _, x, t, fun G1 H1 m1 ds vs e1 r1 p1 t1 => hd G1 H1 F m1 ds vs QD Q r1 p1 t1 (k.mono e1)⟩
theorem CallR.or {X : Cx} {f : Value} {r r' : List V → Hp → VK → Prop} (h : CallR X f r) (h' : CallR X f r') : CallR X f (fun xs H Q => r xs H Q ∨ r' xs H Q) := fun pins s σ H xs us Q I v q => by
  rcases q with q | q
  · exact h pins s σ H xs us Q I v q
  · exact h' pins s σ H xs us Q I v q
section
variable {K : PySem.W.Frag} {X : Cx} {W : WX} {WD : DWX} {e : Expr} {es : List Expr} {t : DTA} {p pos : Pos} {r : List V → Hp → VK → Prop} {rd : DRC} {x : Str} {id T : String}
theorem de_callB (hc : CallR X (.builtin id) r) (hd : CallD X.K r rd) (hg : Gl X x) (hm : X.mg x = none) (hv : bootBuiltins x = some (.builtin id)) (ha : DA X W WD (e :: es) t) (hn : x ≠ "__name__" := by decide) (hdb : (x == ("__debug__" : Str)) = false := by decide)
    (he : starEach (e :: es) X.env = (false, eval e X.env) :: starEach es X.env := by rfl) (hpl : (backTo pos (starEach es X.env)).any (·.1) = false := by rfl) : DE X W WD (.Call (.Name x p) (e :: es) [] pos) (dCB rd t) :=
  PE.imp (pe_callB hc hg hm hv ha hn hdb he hpl) fun _ _ _ h => up_cb hd h
theorem de_callTy (hc : CallR X (.type T) r) (hd : CallD X.K r rd) (hg : Gl X x) (hm : X.mg x = none) (hv : bootBuiltins x = some (.type T)) (ha : DA X W WD (e :: es) t) (hn : x ≠ "__name__" := by decide) (hdb : (x == ("__debug__" : Str)) = false := by decide)
    (he : starEach (e :: es) X.env = (false, eval e X.env) :: starEach es X.env := by rfl) (hpl : (backTo pos (starEach es X.env)).any (·.1) = false := by rfl) : DE X W WD (.Call (.Name x p) (e :: es) [] pos) (dCB rd t) :=
  PE.imp (pe_callTy hc hg hm hv ha hn hdb he hpl) fun _ _ _ h => up_cb hd h
theorem rps1 {G : Hp} {d : D} {vs : List V} (h : Rps K G [d] vs) : ∃ v, vs = [v] ∧ Rp K G d v := by
  cases h with | cons r t => cases t; exact ⟨_, rfl, r⟩
theorem rps2 {G : Hp} {d e : D} {vs : List V} (h : Rps K G [d, e] vs) : ∃ v u, vs = [v, u] ∧ Rp K G d v ∧ Rp K G e u := by
  cases h with | cons r t => cases t with | cons r2 t2 => cases t2; exact ⟨_, _, rfl, r, r2⟩
def dLen : DRC := fun ds m Q => ∃ d, ds = [d] ∧ match d with
  | .str z => z.length ≤ sizeLine ∧ Q (.int z.length) m
  | d => ∃ xs, sqOf m d = some xs ∧ Q (.int xs.length) m
theorem cd_len : CallD K (fun xs H Q => ∃ x n, xs = [x] ∧ LenV K x H n ∧ Q (.int n) H) dLen := by
  intro G H F m ds vs QD Q r ps t k
  obtain ⟨d, rfl, t⟩ := t
  obtain ⟨v, rfl, p⟩ := rps1 ps
  have go : (∃ xs, sqOf m d = some xs ∧ QD (.int xs.length) m) → ∃ x n, [v] = [x] ∧ LenV K x H n ∧ Q (.int n) H := by
    rintro ⟨xs, e, t⟩
    obtain ⟨a, vs, rfl, hs, rs⟩ := sq_ok r p e
    refine ⟨_, xs.length, rfl, ?_, k.here r (.int _) t⟩
    rcases hs with hs | hs
    · exact .inl ⟨vs, hs, rs.length⟩
    · exact .inr ⟨vs, hs, rs.length⟩
  cases d with
  | str z => cases p; exact ⟨_, z.length, rfl, ⟨t.1, rfl⟩, k.here r (.int _) t.2⟩
  | _ => exact go t
def dInt1 : DRC := fun ds m Q => match ds with
  | [.int i] => Q (.int i) m
  | [.bl b] => Q (.int (if b then 1 else 0)) m
  | _ => False
theorem cd_int1 : CallD K (fun xs H Q => (∃ i, xs = [.int i] ∧ Q (.int i) H) ∨ ∃ k, xs = [.bl k] ∧ Q (.int (if k then 1 else 0)) H) dInt1 := by
  intro G H F m ds vs QD Q r ps t k
  match ds, t with
  | [.int i], t =>
    obtain ⟨v, rfl, p⟩ := rps1 ps
    cases p; exact .inl ⟨i, rfl, k.here r (.int _) t⟩
  | [.bl i], t =>
    obtain ⟨v, rfl, p⟩ := rps1 ps
    cases p; exact .inr ⟨i, rfl, k.here r (.int _) t⟩
def dAbs : DRC := fun ds m Q => match ds with
  | [.int i] => Q (.int (if i < 0 then -i else i)) m
  | _ => False
theorem cd_abs : CallD K (fun xs H Q => ∃ i, xs = [.int i] ∧ Q (.int (if i < 0 then -i else i)) H) dAbs := by
  intro G H F m ds vs QD Q r ps t k
  match ds, t with
  | [.int i], t =>
    obtain ⟨v, rfl, p⟩ := rps1 ps
    cases p; exact ⟨i, rfl, k.here r (.int _) t⟩
/-- max, min of two; of one list -/
def dMax : DRC := fun ds m Q => match ds with
  | [d] => ∃ ns : List Int, lsOf m d = some (ns.map D.int) ∧ 0 < ns.length ∧ ∀ k, k ∈ ns → (∀ y, y ∈ ns → y ≤ k) → Q (.int k) m
  | [d, e] => ∃ i j, d = .int i ∧ e = .int j ∧ Q (.int (max i j)) m
  | _ => False
def dMin : DRC := fun ds m Q => match ds with
  | [d] => ∃ ns : List Int, lsOf m d = some (ns.map D.int) ∧ 0 < ns.length ∧ ∀ k, k ∈ ns → (∀ y, y ∈ ns → k ≤ y) → Q (.int k) m
  | [d, e] => ∃ i j, d = .int i ∧ e = .int j ∧ Q (.int (min i j)) m
  | _ => False
def rMaxA (K : PySem.W.Frag) : List V → Hp → VK → Prop := fun xs H Q => (∃ i j, xs = [.int i, .int j] ∧ Q (.int (if j > i then j else i)) H) ∨ rMax K xs H Q
def rMinA (K : PySem.W.Frag) : List V → Hp → VK → Prop := fun xs H Q => (∃ i j, xs = [.int i, .int j] ∧ Q (.int (if j < i then j else i)) H) ∨ rMin K xs H Q
theorem call_maxA (hc : X.calm = true) : CallR X (.builtin "max") (rMaxA X.K) := CallR.or (call_max2 hc) (cr_max hc)
theorem call_minA (hc : X.calm = true) : CallR X (.builtin "min") (rMinA X.K) := CallR.or (call_min2 hc) (cr_min hc)
theorem cd_max : CallD K (rMaxA K) dMax := by
  intro G H F m ds vs QD Q r ps t k
  have one : ∀ (d : D), ds = [d] → (∃ ns : List Int, lsOf m d = some (ns.map D.int) ∧ 0 < ns.length ∧ ∀ k, k ∈ ns → (∀ y, y ∈ ns → y ≤ k) → QD (.int k) m) → rMaxA K vs H Q := by
    rintro d rfl ⟨ns, e, h0, t⟩
    obtain ⟨v, rfl, p⟩ := rps1 ps
    obtain ⟨a, us, rfl, hs, rs⟩ := ls_ok r p e
    rw [rs.ints] at hs
    exact .inr ⟨a, ns, rfl, hs, h0, fun z h1 h2 => k.here r (.int _) (t z h1 h2)⟩
  match ds, t with
  | [d, e], t =>
    obtain ⟨i, j, rfl, rfl, t⟩ := t
    obtain ⟨v, u, rfl, p, q⟩ := rps2 ps
    cases p; cases q
    refine .inl ⟨i, j, rfl, ?_⟩
    have e : (if j > i then j else i) = max i j := by split <;> omega
    rw [e]
    exact k.here r (.int _) t
  | [d], t => exact one d rfl t
theorem cd_min : CallD K (rMinA K) dMin := by
  intro G H F m ds vs QD Q r ps t k
  have one : ∀ (d : D), ds = [d] → (∃ ns : List Int, lsOf m d = some (ns.map D.int) ∧ 0 < ns.length ∧ ∀ k, k ∈ ns → (∀ y, y ∈ ns → k ≤ y) → QD (.int k) m) → rMinA K vs H Q := by
    rintro d rfl ⟨ns, e, h0, t⟩
    obtain ⟨v, rfl, p⟩ := rps1 ps
    obtain ⟨a, us, rfl, hs, rs⟩ := ls_ok r p e
    rw [rs.ints] at hs
    exact .inr ⟨a, ns, rfl, hs, h0, fun z h1 h2 => k.here r (.int _) (t z h1 h2)⟩
  match ds, t with
  | [d, e], t =>
    obtain ⟨i, j, rfl, rfl, t⟩ := t
    obtain ⟨v, u, rfl, p, q⟩ := rps2 ps
    cases p; cases q
    refine .inl ⟨i, j, rfl, ?_⟩
    have e : (if j < i then j else i) = min i j := by split <;> omega
    rw [e]
    exact k.here r (.int _) t
  | [d], t => exact one d rfl t
def dSum : DRC := fun ds m Q => ∃ d, ds = [d] ∧ ∃ ns : List Int, lsOf m d = some (ns.map D.int) ∧ Q (.int ns.sum) m
def dAll : DRC := fun ds m Q => ∃ d, ds = [d] ∧ ∃ bs : List Bool, lsOf m d = some (bs.map D.bl) ∧ Q (.bl (bs.all _root_.id)) m
def dAny : DRC := fun ds m Q => ∃ d, ds = [d] ∧ ∃ bs : List Bool, lsOf m d = some (bs.map D.bl) ∧ Q (.bl (bs.any _root_.id)) m
theorem cd_sum : CallD K (rSum K) dSum := by
  intro G H F m ds vs QD Q r ps t k
  obtain ⟨d, rfl, ns, e, t⟩ := t
  obtain ⟨v, rfl, p⟩ := rps1 ps
  obtain ⟨a, us, rfl, hs, rs⟩ := ls_ok r p e
  rw [rs.ints] at hs
  exact ⟨a, ns, rfl, hs, k.here r (.int _) t⟩
theorem cd_all : CallD K (rAll K) dAll := by
  intro G H F m ds vs QD Q r ps t k
  obtain ⟨d, rfl, ns, e, t⟩ := t
  obtain ⟨v, rfl, p⟩ := rps1 ps
  obtain ⟨a, us, rfl, hs, rs⟩ := ls_ok r p e
  rw [rs.bls] at hs
  exact ⟨a, ns, rfl, hs, k.here r (.bl _) t⟩
theorem cd_any : CallD K (rAny K) dAny := by
  intro G H F m ds vs QD Q r ps t k
  obtain ⟨d, rfl, ns, e, t⟩ := t
  obtain ⟨v, rfl, p⟩ := rps1 ps
  obtain ⟨a, us, rfl, hs, rs⟩ := ls_ok r p e
  rw [rs.bls] at hs
  exact ⟨a, ns, rfl, hs, k.here r (.bl _) t⟩
def dList (mt : Bool) : DRC := fun ds m Q => ∃ d, ds = [d] ∧ ∃ xs, sqOf m d = some xs ∧ mkL mt xs m Q
theorem cd_list (mt : Bool) : CallD K (fun xs H Q => ∃ p ys, xs = [.ref p] ∧ (SqL K H p ys ∨ SqT K H p ys) ∧ ∀ l, H l = none → Q (.ref l) (upd H l (.lst ys))) (dList mt) := by
  intro G H F m ds vs QD Q r ps t k
  obtain ⟨d, rfl, xs, e, t⟩ := t
  obtain ⟨v, rfl, p⟩ := rps1 ps
  obtain ⟨a, us, rfl, hs, rs⟩ := sq_ok r p e
  exact ⟨a, us, rfl, hs, fun l hl => mkL_ok k r rs hl t⟩
def dTuple : DRC := fun ds m Q => ∃ d, ds = [d] ∧ ∃ xs, sqOf m d = some xs ∧ Q (.tup xs) m
theorem cd_tuple : CallD K (fun xs H Q => ∃ p ys, xs = [.ref p] ∧ ((SqL K H p ys ∧ ∀ l, H l = none → Q (.ref l) (upd H l (.tup ys))) ∨ (SqT K H p ys ∧ Q (.ref p) H))) dTuple := by
  intro G H F m ds vs QD Q r ps t k
  obtain ⟨d, rfl, xs, e, t⟩ := t
  obtain ⟨v, rfl, p⟩ := rps1 ps
  cases d with
  | tup ys =>
    cases e
    cases p with | tup h1 r1 => exact ⟨_, _, rfl, .inr ⟨same_sqt r.ext h1, k.here r (.tup h1 r1) t⟩⟩
  | _ =>
    obtain ⟨a, us, rfl, hs, rs⟩ := ls_ok r p e
    exact ⟨a, us, rfl, .inl ⟨hs, fun l hl => mkT_ok k r rs hl t⟩⟩
/-! isinstance of data -/
def tyName (m : M) : D → Option String
  | .non => some "NoneType"
  | .bl _ => some "bool"
  | .int _ => some "int"
  | .str _ => some "str"
  | .lst _ => some "list"
  | .tup _ => some "tuple"
  | .ref a => (m a).bind fun o => match o with
    | .lst _ => some "list"
    | .dK _ => some "dict"
    | .dT _ => some "dict"
    | _ => none
  | _ => none
theorem sqt_ty {H : Hp} {a : Addr} {vs : List V} (h : SqT K H a vs) : TyX K H (.ref a) (.type "tuple") := by
  rcases h with (h | ⟨o, h⟩) | ⟨o, its, n, h1, h2, _⟩
  · exact .base (.tup h)
  · exact .fTuple h
  · exact .kTuple h1 h2
theorem ty_ok {G H F : Hp} {m : M} {d : D} {v : V} {T : String} (r : Rep K G H F m) (p : Rp K G d v) (e : tyName m d = some T) : TyX K H v (.type T) := by
  cases d with
  | non => cases e; cases p; exact .base .non
  | bl b => cases e; cases p; exact .base (.bl b)
  | int b => cases e; cases p; exact .base (.int b)
  | str b => cases e; cases p; exact .base (.str b)
  | lst xs => cases e; cases p with | lst h1 r1 => exact .base (.lst (r.ext _ _ h1))
  | tup xs => cases e; cases p with | tup h1 r1 => exact sqt_ty (same_sqt r.ext h1)
  | ref a =>
    cases p
    dsimp only [tyName] at e
    cases q : m a with
    | none => rw [q] at e; cases e
    | some o =>
      rw [q] at e
      obtain ⟨_, _, u, h3, h4⟩ := r.mo a _ q
      cases o with
      | lst xs => cases e; obtain ⟨vs, rfl, _⟩ := h4.ofLst; exact .base (.lst h3)
      | dK xs => cases e; cases u with
        | dK kv => exact .base (.dK h3)
        | _ => exact h4.elim
      | dT xs => cases e; cases u with
        | dT kv => exact .base (.dT h3)
        | _ => exact h4.elim
      | _ => cases e
  | _ => cases e
/-- what is known of an own class, for isinstance -/
structure ClsI (K : PySem.W.Frag) (C : Addr) : Prop where
  cl : Cls K C
  ha : PySem.W.findIn K (.ref C) "__class__" = some (some (.builtin "object.__class__"))
  hn : PySem.W.specialIn K (.builtin "object.__class__") "__get__" = some (some (.builtin "getset_descriptor.__get__"))
  tk : PySem.W.takesIn K (.builtin "object.__class__") = some true
  hm : PySem.W.mroIn K C (.type "object") = some true
/-- isinstance(d, c) is b -/
def IsiD (K : PySem.W.Frag) (m : M) (d c : D) (b : Bool) : Prop :=
  ∃ u, ((∃ T, c = .ty T ∧ u = Value.type T) ∨ (∃ C, c = .ref C ∧ u = .ref C)) ∧
    ((∃ S, tyName m d = some S ∧ PySem.W.kitOne K (.type S) u = some b) ∨ (∃ C fs, d = .ins C fs ∧ ClsI K C ∧ PySem.W.kitOne K (.ref C) u = some b))
def dIsi (K : PySem.W.Frag) : DRC := fun ds m Q => ∃ d c b, ds = [d, c] ∧ IsiD K m d c b ∧ Q (.bl b) m
theorem cd_isi : CallD K (rIsi K) (dIsi K) := by
  intro G H F m ds vs QD Q r ps t k
  obtain ⟨d, c, b, rfl, ⟨u, hc, hd⟩, t⟩ := t
  obtain ⟨v, w, rfl, p, q⟩ := rps2 ps
  have cv : ClsV w u := by
    rcases hc with ⟨T, rfl, rfl⟩ | ⟨C, rfl, rfl⟩
    · cases q; exact .ty T
    · cases q; exact .own C
  rcases hd with ⟨S, e, hk⟩ | ⟨C, fs, rfl, I, hk⟩
  · exact ⟨v, w, .type S, u, b, rfl, cv, ty_ok r p e, hk, k.here r (.bl _) t⟩
  · cases p with | ins h1 r1 =>
    exact ⟨_, w, .ref C, u, b, rfl, cv, .base (.ins (r.ext _ _ h1) I.cl I.ha I.hn I.tk I.hm), hk, k.here r (.bl _) t⟩
end
end DL

set_option Elab.async false
set_option linter.all false
set_option maxRecDepth 100000
set_option maxHeartbeats 4000000
namespace DL
open PySem PySem.Spec PyProof.Rows L2

/-! ### statements -/
structure DEnds where
  nx : DSt → M → Prop
  rt : D → M → Prop
  bk : DSt → M → Prop := fun _ _ => False
  ct : DSt → M → Prop := fun _ _ => False
abbrev DTS := DEnds → DSt → M → Prop
/-- what follows a state -/
def Ks (K : PySem.W.Frag) (G F : Hp) (QD : DSt → M → Prop) (Q : L2.St → Hp → Prop) : Prop := ∀ (G' H' : Hp) (m' : M) (r' : DSt) (s' : L2.St), Same G G' → Rep K G' H' F m' → Rs K G' r' s' → QD r' m' → Q s' H'
theorem Ks.mono {K : PySem.W.Frag} {G G' F : Hp} {QD : DSt → M → Prop} {Q : L2.St → Hp → Prop} (e : Same G G') (h : Ks K G F QD Q) : Ks K G' F QD Q := fun G2 H2 m2 r2 s2 e2 => h G2 H2 m2 r2 s2 (e.trans e2)
structure Lk (K : PySem.W.Frag) (G F : Hp) (DD : DEnds) (E : Ends) : Prop where
  nx : Ks K G F DD.nx E.nx
  rt : Kv K G F DD.rt E.rt
  bk : Ks K G F DD.bk E.bk
  ct : Ks K G F DD.ct E.ct
theorem Lk.mono {K : PySem.W.Frag} {G G' F : Hp} {DD : DEnds} {E : Ends} (e : Same G G') (h : Lk K G F DD E) : Lk K G' F DD E := ⟨h.nx.mono e, h.rt.mono e, h.bk.mono e, h.ct.mono e⟩
def upS (K : PySem.W.Frag) (W : WX) (WD : DWX) (t : DTS) : TS := fun E σ H => ∃ (G F : Hp) (r : DSt) (m : M) (DD : DEnds), Sx K W WD G H F r σ m ∧ t DD r m ∧ Lk K G F DD E
abbrev DS (X : Cx) (W : WX) (WD : DWX) (st : Stmt) (t : DTS) : Prop := PS X st (upS X.K W WD t)
abbrev DSs (X : Cx) (W : WX) (WD : DWX) (st : List Stmt) (t : DTS) : Prop := PSs X st (upS X.K W WD t)
theorem PS.imp {X : Cx} {st : Stmt} {t t' : TS} (h : PS X st t) (i : ∀ E σ H, t' E σ H → t E σ H) : PS X st t' := ⟨fun pins s σ H D I q => h.run pins s σ H D I (i D σ H q)⟩
theorem PSs.imp {X : Cx} {st : List Stmt} {t t' : TS} (h : PSs X st t) (i : ∀ E σ H, t' E σ H → t E σ H) : PSs X st t' := ⟨fun pins s σ H D I q => h.run pins s σ H D I (i D σ H q)⟩
theorem Sx.to {K : PySem.W.Frag} {W : WX} {WD : DWX} {G G' H H' F : Hp} {r r' : DSt} {s s' : L2.St} {m m' : M} (x : Sx K W WD G H F r s m) (e : Same G G') (h : Rep K G' H' F m') (q : Rs K G' r' s') : Sx K W WD G' H' F r' s' m' := ⟨h, q, x.lx.mono e⟩
def dNext : DTS := fun DD r m => DD.nx r m
def dSeq (t u : DTS) : DTS := fun DD r m => t { DD with nx := u DD } r m
section
variable {X : Cx} {W : WX} {WD : DWX} {st : Stmt} {rest : List Stmt} {t u : DTS} {e : Expr} {te : DTE} {pos : Pos}
theorem dss_nil : DSs X W WD [] dNext := by
  refine PSs.imp pss_nil fun E σ H h => ?_
  obtain ⟨G, F, r, m, DD, x, t, k⟩ := h
  exact k.nx G H m r σ (Same.refl G) x.rep x.rs t
theorem dss_cons (h1 : DS X W WD st t) (h2 : DSs X W WD rest u) : DSs X W WD (st :: rest) (dSeq t u) := by
  refine PSs.imp (pss_cons h1 h2) fun E σ H h => ?_
  obtain ⟨G, F, r, m, DD, x, t, k⟩ := h
  exact ⟨G, F, r, m, { DD with nx := u DD }, x, t, ⟨fun G1 H1 m1 r1 s1 e1 p1 q1 t1 => ⟨G1, F, r1, m1, DD, x.to e1 p1 q1, t1, k.mono e1⟩, k.rt, k.bk, k.ct⟩⟩
theorem dss_one (h1 : DS X W WD st t) : DSs X W WD [st] t := pss_one h1
theorem ds_pass : DS X W WD (.Pass pos) dNext := by
  refine PS.imp ps_pass fun E σ H h => ?_
  obtain ⟨G, F, r, m, DD, x, t, k⟩ := h
  exact k.nx G H m r σ (Same.refl G) x.rep x.rs t
def dBreak : DTS := fun DD r m => DD.bk r m
def dCont : DTS := fun DD r m => DD.ct r m
theorem ds_break : DS X W WD (.Break pos) dBreak := by
  refine PS.imp ps_break fun E σ H h => ?_
  obtain ⟨G, F, r, m, DD, x, t, k⟩ := h
  exact k.bk G H m r σ (Same.refl G) x.rep x.rs t
theorem ds_continue : DS X W WD (.Continue pos) dCont := by
  refine PS.imp ps_continue fun E σ H h => ?_
  obtain ⟨G, F, r, m, DD, x, t, k⟩ := h
  exact k.ct G H m r σ (Same.refl G) x.rep x.rs t
def dDrop (te : DTE) : DTS := fun DD r m => te r m fun _ m1 => DD.nx r m1
theorem ds_expr (he : DE X W WD e te) (hs : swapsWith e none pos.line X.env = pure false := by rfl) : DS X W WD (.Expr e pos) (dDrop te) := by
  refine PS.imp (ps_expr he hs) fun E σ H h => ?_
  obtain ⟨G, F, r, m, DD, x, t, k⟩ := h
  exact ⟨G, F, r, m, _, x, t, fun G1 H1 m1 d v e1 p1 q1 t1 => k.nx G1 H1 m1 r σ e1 p1 (x.rs.mono e1) t1⟩
def dRet (te : DTE) : DTS := fun DD r m => te r m DD.rt
theorem ds_ret (he : DE X W WD e te) : DS X W WD (.Return (some e) pos) (dRet te) := by
  refine PS.imp (ps_ret he) fun E σ H h => ?_
  obtain ⟨G, F, r, m, DD, x, t, k⟩ := h
  exact ⟨G, F, r, m, _, x, t, k.rt⟩
/-- a mutable thing as what it holds now -/
def frzV (m : M) (d : D) (Q : D → M → Prop) : Prop := match d with
  | .ref a => (match m a with
    | some (.lst ds) => Q (.lst ds) (mdel m a)
    | some (.ins C fs) => Q (.ins C fs) (mdel m a)
    | _ => False)
  | _ => False
theorem frzV_ok {K : PySem.W.Frag} {G H F : Hp} {m : M} {d : D} {v : V} {QD : D → M → Prop} {Q : VK} (k : Kv K G F QD Q) (r : Rep K G H F m) (p : Rp K G d v) (t : frzV m d QD) : Q v H := by
  cases d with
  | ref a =>
    cases p
    dsimp only [frzV] at t
    cases q : m a with
    | none => rw [q] at t; exact t.elim
    | some o =>
      rw [q] at t
      cases o with
      | lst ds =>
        obtain ⟨G', e, r', p'⟩ := r.freeze q
        exact k G' H _ _ _ e r' p' t
      | ins C fs =>
        obtain ⟨G', e, r', p'⟩ := r.freezeI q
        exact k G' H _ _ _ e r' p' t
      | _ => exact t.elim
  | _ => exact t.elim
/-- an expression whose value, a mutable thing, is frozen -/
def dFrzE (te : DTE) : DTE := fun r m Q => te r m fun d m1 => frzV m1 d Q
theorem de_frz (he : DE X W WD e te) : DE X W WD e (dFrzE te) := by
  refine PE.imp he fun σ H Q h => ?_
  obtain ⟨G, F, r, m, QD, x, t, k⟩ := h
  exact ⟨G, F, r, m, _, x, t, fun G1 H1 m1 d v e1 p1 q1 t1 => frzV_ok (k.mono e1) p1 q1 t1⟩
def dRetN : DTS := fun DD _ m => DD.rt .non m
theorem ds_retN : DS X W WD (.Return none pos) dRetN := by
  refine PS.imp ps_retN fun E σ H h => ?_
  obtain ⟨G, F, r, m, DD, x, t, k⟩ := h
  exact k.rt G H m _ _ (Same.refl G) x.rep .non t
def dIfS (c : DTT) (t u : DTS) : DTS := fun DD r m => c r m fun b m1 => if b = true then t DD r m1 else u DD r m1
theorem ds_if {c : Expr} {a b : List Stmt} {tc : DTT} (hc : DT X W WD c tc) (ha : DSs X W WD a t) (hb : DSs X W WD b u) : DS X W WD (.If c a b pos) (dIfS tc t u) := by
  refine PS.imp (ps_if hc ha hb) fun E σ H h => ?_
  obtain ⟨G, F, r, m, DD, x, t, k⟩ := h
  refine ⟨G, F, r, m, _, x, t, fun G1 H1 m1 b e1 p1 t1 => ?_⟩
  cases b with
  | true => exact ⟨G1, F, r, m1, DD, x.step e1 p1, t1, k.mono e1⟩
  | false => exact ⟨G1, F, r, m1, DD, x.step e1 p1, t1, k.mono e1⟩
/-- ahead of statements: the mutable list in slot i is frozen -/
def dFrz (i : Nat) (t : DTS) : DTS := fun DD r m => ∃ a ds, slot r i = some (.ref a) ∧ m a = some (.lst ds) ∧ t DD (r.set i (some (.lst ds))) (mdel m a)
theorem dss_frz (i : Nat) (h : DSs X W WD rest t) : DSs X W WD rest (dFrz i t) := by
  refine PSs.imp h fun E σ H h => ?_
  obtain ⟨G, F, r, m, DD, x, ⟨a, ds, e1, e2, t⟩, k⟩ := h
  obtain ⟨G', e, r', p'⟩ := x.rep.freeze e2
  obtain ⟨v, e3, pv⟩ := x.rs.at_ i _ (slot_get e1)
  cases pv
  refine ⟨G', F, _, _, DD, ⟨r', (x.rs.mono e).setG (fun v hv => ?_) ⟨_, e3⟩, x.lx.mono e⟩, t, k.mono e⟩
  rw [e3] at hv
  cases hv
  exact p'
theorem ds_frz (i : Nat) (h : DS X W WD st t) : DS X W WD st (dFrz i t) := by
  refine PS.imp h fun E σ H h => ?_
  obtain ⟨G, F, r, m, DD, x, ⟨a, ds, e1, e2, t⟩, k⟩ := h
  obtain ⟨G', e, r', p'⟩ := x.rep.freeze e2
  obtain ⟨v, e3, pv⟩ := x.rs.at_ i _ (slot_get e1)
  cases pv
  refine ⟨G', F, _, _, DD, ⟨r', (x.rs.mono e).setG (fun v hv => ?_) ⟨_, e3⟩, x.lx.mono e⟩, t, k.mono e⟩
  rw [e3] at hv
  cases hv
  exact p'
end

/-! ### targets -/
abbrev DTG := D → DSt → M → (DSt → M → Prop) → Prop
abbrev DTGs := List D → DSt → M → (DSt → M → Prop) → Prop
def upG (K : PySem.W.Frag) (W : WX) (WD : DWX) (t : DTG) : TG := fun v σ H Q => ∃ (G F : Hp) (r : DSt) (m : M) (d : D) (QD : DSt → M → Prop), Sx K W WD G H F r σ m ∧ Rp K G d v ∧ t d r m QD ∧ Ks K G F QD Q
def upGs (K : PySem.W.Frag) (W : WX) (WD : DWX) (t : DTGs) : TGs := fun vs σ H Q => ∃ (G F : Hp) (r : DSt) (m : M) (ds : List D) (QD : DSt → M → Prop), Sx K W WD G H F r σ m ∧ Rps K G ds vs ∧ t ds r m QD ∧ Ks K G F QD Q
abbrev DG (X : Cx) (W : WX) (WD : DWX) (tg : Expr) (t : DTG) : Prop := PG X tg (upG X.K W WD t)
abbrev DGs (X : Cx) (W : WX) (WD : DWX) (ts : List Expr) (t : DTGs) : Prop := PGs X ts (upGs X.K W WD t)
theorem PG.imp {X : Cx} {tg : Expr} {t t' : TG} (h : PG X tg t) (i : ∀ v σ H Q, t' v σ H Q → t v σ H Q) : PG X tg t' := ⟨fun pins s σ H v u Q I r q => h.run pins s σ H v u Q I r (i v σ H Q q)⟩
theorem PGs.imp {X : Cx} {tg : List Expr} {t t' : TGs} (h : PGs X tg t) (i : ∀ v σ H Q, t' v σ H Q → t v σ H Q) : PGs X tg t' := ⟨fun pins s σ H v u Q I r q => h.run pins s σ H v u Q I r (i v σ H Q q)⟩
def gN (i : Nat) : DTG := fun d r m Q => Q (r.set i (some d)) m
def gsNil : DTGs := fun ds r m Q => ds = [] ∧ Q r m
def gsCons (t : DTG) (u : DTGs) : DTGs := fun ds r m Q => ∃ d rest, ds = d :: rest ∧ t d r m fun r1 m1 => u rest r1 m1 Q
def gT (n : Nat) (t : DTGs) : DTG := fun d r m Q => ∃ xs, sqOf m d = some xs ∧ xs.length = n ∧ t xs r m Q
theorem PG.either {X : Cx} {tg : Expr} {t t' : TG} (h : PG X tg t) (h' : PG X tg t') : PG X tg (fun v σ H Q => t v σ H Q ∨ t' v σ H Q) := ⟨fun pins s σ H v u Q I r q => by
  rcases q with q | q
  · exact h.run pins s σ H v u Q I r q
  · exact h'.run pins s σ H v u Q I r q⟩
section
variable {X : Cx} {W : WX} {WD : DWX} {pos : Pos}
theorem dg_name {i : Nat} {x : Str} (hN : X.N.Nodup) (hi : X.N[i]? = some x) (hx : Loc X.env.scope x) (hf : X.fn x = true ∨ X.env.scope.names.lookup x = some .local := by first | exact .inl rfl | exact .inr rfl | assumption) : DG X W WD (.Name x pos) (gN i) := by
  refine PG.imp (pg_name hN hi hx hf) fun v σ H Q h => ?_
  obtain ⟨G, F, r, m, d, QD, x, p, t, k⟩ := h
  exact k G H m _ _ (Same.refl G) x.rep (x.rs.set p) t
theorem dgs_nil : DGs X W WD [] gsNil := by
  refine PGs.imp pgs_nil fun v σ H Q h => ?_
  obtain ⟨G, F, r, m, d, QD, x, p, ⟨rfl, t⟩, k⟩ := h
  cases p
  exact ⟨rfl, k G H m _ _ (Same.refl G) x.rep x.rs t⟩
theorem dgs_cons {e : Expr} {es : List Expr} {t : DTG} {u : DTGs} (h1 : DG X W WD e t) (h2 : DGs X W WD es u)
    (hs : (assignEach (e :: es) X.env).map (·.2) = assign e X.env :: (assignEach es X.env).map (·.2) := by rfl) : DGs X W WD (e :: es) (gsCons t u) := by
  refine PGs.imp (pgs_cons h1 h2 hs) fun v σ H Q h => ?_
  obtain ⟨G, F, r, m, ds, QD, x, p, ⟨d, rest, rfl, t⟩, k⟩ := h
  cases p with | cons p1 p2 =>
  refine ⟨_, _, rfl, G, F, r, m, d, _, x, p1, t, fun G1 H1 m1 r1 s1 e1 q1 q2 t1 => ?_⟩
  exact ⟨G1, F, r1, m1, rest, QD, x.to e1 q1 q2, p2.mono e1, t1, k.mono e1⟩
theorem dg_tup {es : List Expr} {k : Nat} {t : DTGs} {n : Nat} (hc : X.calm = true) (h : DGs X W WD es t)
    (hn : (assignEach es X.env).length = n := by rfl) (hst : (assignEach es X.env).findIdx? (·.1) = none := by rfl) : DG X W WD (.Tuple es k pos) (gT n t) := by
  refine PG.imp (PG.either (pg_tup hc h hn hst) (pg_unl hc h hn hst)) fun v σ H Q h => ?_
  obtain ⟨G, F, r, m, d, QD, x, p, ⟨xs, e, hl, t⟩, k⟩ := h
  obtain ⟨a, vs, rfl, hs, r1⟩ := sq_ok x.rep p e
  rcases hs with hs | hs
  · exact .inr ⟨_, _, rfl, hs, by rw [← r1.length]; exact hl, G, F, r, m, xs, QD, x, r1, t, k⟩
  · exact .inl ⟨_, _, rfl, hs, by rw [← r1.length]; exact hl, G, F, r, m, xs, QD, x, r1, t, k⟩
/-- o[i] = v of a mutable list -/
def gSet (to ti : DTE) : DTG := fun v r m Q => to r m fun o m1 => ti r m1 fun i m2 => ∃ a xs k j, o = .ref a ∧ i = .int k ∧ m2 a = some (.lst xs) ∧ ixN xs.length k = some j ∧ Q r (mset m2 a (.lst (xs.set j v)))
theorem dg_sub {o i : Expr} {to ti : DTE} (ho : DE X W WD o to) (hi : DE X W WD i ti)
    (ha : ∀ v, assign (.Subscript o i pos) X.env v = (do
      let ov ← holding [v] (eval o X.env)
      let iv ← holding [v, ov] (eval i X.env)
      standAt pos
      holding [v, ov, iv] (setItem ov iv v)
      release [v, ov, iv] []) := by intro _; rfl) : DG X W WD (.Subscript o i pos) (gSet to ti) := by
  refine PG.imp (pg_sub ho hi set_list ha) fun v σ H Q h => ?_
  obtain ⟨G, F, r, m, d, QD, x, p, t, k⟩ := h
  refine ⟨G, F, r, m, _, x, t, fun G1 H1 m1 d1 v1 e1 r1 p1 t1 => ?_⟩
  refine ⟨G1, F, r, m1, _, x.step e1 r1, t1, fun G2 H2 m2 d2 v2 e2 r2 p2 t2 => ?_⟩
  obtain ⟨a, xs, kk, j, rfl, rfl, hm, hj, t3⟩ := t2
  cases p1; cases p2
  obtain ⟨_, _, u, h3, h4⟩ := r2.mo a _ hm
  obtain ⟨vs, rfl, h4⟩ := h4.ofLst
  refine ⟨a, vs, kk, j, rfl, rfl, h3, by rw [← h4.length]; exact hj, ?_⟩
  exact k G2 _ _ r σ (e1.trans e2) (r2.write hm (show RpM X.K G2 (.lst (xs.set j d)) (.lst (vs.set j v)) from h4.set (p.mono (e1.trans e2)) j)) (x.rs.mono (e1.trans e2)) t3
def dAsg (te : DTE) (g : DTG) : DTS := fun DD r m => te r m fun d m1 => g d r m1 DD.nx
theorem ds_asg {tg e : Expr} {te : DTE} {g : DTG} (he : DE X W WD e te) (hg : DG X W WD tg g) (hs : swapsWithSole [tg] e pos.line X.env = pure false := by rfl) (hw : swappedStores [tg] e X.env = pure none := by rfl)
    (h1 : (assignEach [tg] X.env).map (·.2) = [assign tg X.env] := by rfl) : DS X W WD (.Assign [tg] e pos) (dAsg te g) := by
  refine PS.imp (ps_asg he hg hs hw h1) fun E σ H h => ?_
  obtain ⟨G, F, r, m, DD, x, t, k⟩ := h
  exact ⟨G, F, r, m, _, x, t, fun G1 H1 m1 d v e1 p1 q1 t1 => ⟨G1, F, r, m1, d, _, x.step e1 p1, q1, t1, k.nx.mono e1⟩⟩
def dSet (i : Nat) (te : DTE) : DTS := fun DD r m => te r m fun d m1 => DD.nx (r.set i (some d)) m1
theorem ds_set {i : Nat} {x : Str} {e : Expr} {te : DTE} {pos' : Pos} (hN : X.N.Nodup) (hi : X.N[i]? = some x) (hx : Loc X.env.scope x) (he : DE X W WD e te) (hs : swapsWith e (some (.Name x pos')) pos.line X.env = pure false := by rfl) (hf : X.fn x = true ∨ X.env.scope.names.lookup x = some .local := by first | exact .inl rfl | exact .inr rfl | assumption) :
    DS X W WD (.Assign [.Name x pos'] e pos) (dSet i te) := by
  refine PS.imp (ps_set (i := i) hN hi hx he hs hf) fun E σ H h => ?_
  obtain ⟨G, F, r, m, DD, x, t, k⟩ := h
  exact ⟨G, F, r, m, _, x, t, fun G1 H1 m1 d v e1 p1 q1 t1 => k.nx G1 H1 m1 _ _ e1 p1 ((x.rs.mono e1).set q1) t1⟩
/-- a, b = e1, e2 -/
def dPar (i j : Nat) (ta : DTA) : DTS := fun DD r m => ta r m fun ds m1 => ∃ d e, ds = [d, e] ∧ DD.nx ((r.set i (some d)).set j (some e)) m1
theorem ds_par {i j : Nat} {x y : Str} {a b : Expr} {ta : DTA} {px py pt : Pos} {kt k2 pt2} (hc : X.calm = true) (hN : X.N.Nodup) (hi : X.N[i]? = some x) (hj : X.N[j]? = some y) (hij : i ≠ j)
    (hx : X.env.scope.names.lookup x = some .local) (hy : X.env.scope.names.lookup y = some .local) (ha : DA X W WD [a, b] ta)
    (hw : swappedStores [.Tuple [.Name x px, .Name y py] kt pt] (.Tuple [a, b] k2 pt2) X.env = pure (some [x, y]))
    (hs : swapsWithSole [.Tuple [.Name x px, .Name y py] kt pt] (.Tuple [a, b] k2 pt2) pos.line X.env = pure false := by rfl) :
    DS X W WD (.Assign [.Tuple [.Name x px, .Name y py] kt pt] (.Tuple [a, b] k2 pt2) pos) (dPar i j ta) := by
  refine PS.imp (ps_par hc hN hi hj hij hx hy ha hw hs) fun E σ H h => ?_
  obtain ⟨G, F, r, m, DD, x, t, k⟩ := h
  refine ⟨G, F, r, m, _, x, t, fun G1 H1 m1 ds vs e1 p1 q1 t1 => ?_⟩
  obtain ⟨d, e, rfl, t2⟩ := t1
  obtain ⟨v, u, rfl, q2, q3⟩ := rps2 q1
  exact ⟨v, u, rfl, k.nx G1 H1 m1 _ _ e1 p1 (((x.rs.mono e1).set q2).set q3) t2⟩
def dAddI : DR2
  | .int i, .int j, m, Q => Q (.int (i + j)) m
  | _, _, _, _ => False
theorem od_addI {K : PySem.W.Frag} : OpD K (rI0 fun i j => .int (i + j)) dAddI := od_I0 (fun _ _ _ _ h => h) fun x y _ _ h => by
  cases x <;> cases y <;> first | exact ⟨_, _, rfl, rfl⟩ | exact h.elim
/-- name op= e -/
def dAug (i : Nat) (te : DTE) (rd : DR2) : DTS := fun DD r m => ∃ x, slot r i = some x ∧ te r m fun y m1 => rd x y m1 fun z m2 => DD.nx (r.set i (some z)) m2
theorem ds_aug {i : Nat} {x : Str} {e : Expr} {te : DTE} {op : Operator} {ri : R2} {rd : DR2} {pos' : Pos} (hN : X.N.Nodup) (hi : X.N[i]? = some x) (hx : Loc X.env.scope x) (he : DE X W WD e te) (ho : OpR X (inplaceOp op) ri) (hd : OpD X.K ri rd)
    (hf : X.fn x = true ∨ X.env.scope.names.lookup x = some .local := by first | exact .inl rfl | exact .inr rfl | assumption) :
    DS X W WD (.AugAssign (.Name x pos') op e pos) (dAug i te rd) := by
  refine PS.imp (ps_aug (i := i) (ti := ri) hN hi hx he (fun pins s σ H x y v u Q I rx ry q => ho pins s σ H x y v u Q I rx ry q) hf) fun E σ H h => ?_
  obtain ⟨G, F, r, m, DD, x, ⟨d0, e0, t⟩, k⟩ := h
  obtain ⟨v0, e1, p0⟩ := x.rs.at_ i _ (slot_get e0)
  refine ⟨v0, e1, G, F, r, m, _, x, t, fun G1 H1 m1 d v e1 p1 q1 t1 => ?_⟩
  refine hd G1 H1 F m1 d0 d v0 v _ _ p1 (p0.mono e1) q1 t1 fun G2 H2 m2 z vz e2 p2 q2 t2 => ?_
  exact k.nx G2 H2 m2 _ _ (e1.trans e2) p2 ((x.rs.mono (e1.trans e2)).set q2) t2
end
end DL

set_option Elab.async false
set_option linter.all false
set_option maxRecDepth 100000
set_option maxHeartbeats 4000000
namespace DL
open PySem PySem.Spec PyProof.Rows L2

/-! ### what is walked: its items, known ahead -/
structure ItD (K : PySem.W.Frag) (J : It) (G : Hp) (ds : List D) : Prop where
  stop : ∀ H, Same G H → J.stop ds.length H
  go : ∀ i H, i < ds.length → Same G H → J.go i H
  yld : ∀ (i : Nat) (G1 H F : Hp) (m : M) (x : V) (H' : Hp) (d : D), Same G G1 → Rep K G1 H F m → ds[i]? = some d → J.yld i H x H' → ∃ G2, Same G1 G2 ∧ Rep K G2 H' F m ∧ Rp K G2 d x
abbrev DTI := DSt → M → (List D → M → Prop) → Prop
def upI (K : PySem.W.Frag) (W : WX) (WD : DWX) (t : DTI) : TI := fun σ H R => ∃ (G F : Hp) (r : DSt) (m : M) (QD : List D → M → Prop), Sx K W WD G H F r σ m ∧ t r m QD ∧ ∀ G' H' m' ds J, Same G G' → Rep K G' H' F m' → ItD K J G' ds → QD ds m' → R J H'
abbrev DI (X : Cx) (W : WX) (WD : DWX) (tg iter : Expr) (t : DTI) : Prop := PI X tg iter (upI X.K W WD t)
theorem PI.imp {X : Cx} {tg iter : Expr} {t t' : TI} (h : PI X tg iter t) (i : ∀ σ H R, t' σ H R → t σ H R) : PI X tg iter t' := ⟨fun pins s σ H R I q => h.run pins s σ H R I (i σ H R q)⟩
section
variable {X : Cx} {W : WX} {WD : DWX} {tg : Expr}
def rngD (lo : Int) (n : Nat) : List D := (List.range n).map fun (k : Nat) => D.int (lo + (k : Int))
theorem rngD_len (lo : Int) (n : Nat) : (rngD lo n).length = n := by simp [rngD]
theorem rngD_at {lo : Int} {n i : Nat} {d : D} (h : (rngD lo n)[i]? = some d) : d = .int (lo + (i : Int)) ∧ i < n := by
  unfold rngD at h
  rw [List.getElem?_map] at h
  by_cases hi : i < n
  · rw [List.getElem?_range hi] at h
    cases h
    exact ⟨rfl, hi⟩
  · rw [List.getElem?_eq_none (by simp; omega)] at h
    cases h
theorem it_list {K : PySem.W.Frag} {G : Hp} {a : Addr} {vs : List V} {ds : List D} (h : SqL K G a vs) (r : Rps K G ds vs) : ItD K (Itl K a) G ds where
  stop := fun H e => ⟨vs, e.seq h, by rw [r.length]; exact Nat.le_refl _⟩
  go := fun i H hi e => by
    have hv : i < vs.length := by rw [← r.length]; exact hi
    exact ⟨vs, vs[i], e.seq h, by simp [hv]⟩
  yld := fun i G1 H F m x H' d e rep hd y => by
    obtain ⟨rfl, y⟩ := y
    obtain ⟨v, h1, h2⟩ := r.get hd
    have q := y vs ((e.trans rep.ext).seq h)
    rw [h1] at q
    cases q
    exact ⟨G1, Same.refl G1, rep, h2.mono e⟩
theorem it_tup {K : PySem.W.Frag} {G : Hp} {a : Addr} {vs : List V} {ds : List D} (h : SqT K G a vs) (r : Rps K G ds vs) : ItD K (Itt K a) G ds where
  stop := fun H e => ⟨vs, same_sqt e h, by rw [r.length]; exact Nat.le_refl _⟩
  go := fun i H hi e => by
    have hv : i < vs.length := by rw [← r.length]; exact hi
    exact ⟨vs, vs[i], same_sqt e h, by simp [hv]⟩
  yld := fun i G1 H F m x H' d e rep hd y => by
    obtain ⟨rfl, y⟩ := y
    obtain ⟨v, h1, h2⟩ := r.get hd
    have q := y vs (same_sqt (e.trans rep.ext) h)
    rw [h1] at q
    cases q
    exact ⟨G1, Same.refl G1, rep, h2.mono e⟩
theorem it_rng {K : PySem.W.Frag} {G : Hp} (lo : Int) (n : Nat) : ItD K (Itr lo n) G (rngD lo n) where
  stop := fun H e => by rw [rngD_len]; exact Nat.le_refl _
  go := fun i H hi e => by rw [rngD_len] at hi; exact hi
  yld := fun i G1 H F m x H' d e rep hd y => by
    obtain ⟨rfl, rfl⟩ := y
    obtain ⟨rfl, _⟩ := rngD_at hd
    exact ⟨G1, Same.refl G1, rep, .int _⟩
/-- for x in a list that stands still -/
def diL (te : DTE) : DTI := fun r m Q => te r m fun d m1 => match d with
  | .lst xs => Q xs m1
  | .rdl xs => Q xs m1
  | _ => False
theorem di_list {l : Expr} {te : DTE} (hl : DE X W WD l te) : DI X W WD tg l (diL te) := by
  refine PI.imp (pi_list hl) fun σ H R h => ?_
  obtain ⟨G, F, r, m, QD, x, t, k⟩ := h
  refine ⟨G, F, r, m, _, x, t, fun G1 H1 m1 d1 v1 e1 r1 p1 t1 => ?_⟩
  cases d1 with
  | lst xs => cases p1 with | lst h1 q1 => exact ⟨_, rfl, ⟨_, SqL.of (r1.ext _ _ h1)⟩, k G1 H1 m1 xs _ e1 r1 (it_list (SqL.of h1) q1) t1⟩
  | rdl xs => cases p1 with | rdl h1 q1 => exact ⟨_, rfl, ⟨_, r1.ext.seq h1⟩, k G1 H1 m1 xs _ e1 r1 (it_list h1 q1) t1⟩
  | _ => exact t1.elim
def diT (te : DTE) : DTI := fun r m Q => te r m fun d m1 => match d with
  | .tup xs => Q xs m1
  | _ => False
theorem di_tup {l : Expr} {te : DTE} (hl : DE X W WD l te) : DI X W WD tg l (diT te) := by
  refine PI.imp (pi_tup hl) fun σ H R h => ?_
  obtain ⟨G, F, r, m, QD, x, t, k⟩ := h
  refine ⟨G, F, r, m, _, x, t, fun G1 H1 m1 d1 v1 e1 r1 p1 t1 => ?_⟩
  cases d1 with
  | tup xs => cases p1 with | tup h1 q1 => exact ⟨_, rfl, ⟨_, same_sqt r1.ext h1⟩, k G1 H1 m1 xs _ e1 r1 (it_tup h1 q1) t1⟩
  | _ => exact t1.elim
def diR1 (ta : DTA) : DTI := fun r m Q => ta r m fun ds m1 => ∃ j : Int, ds = [.int j] ∧ (-(2 ^ 62) ≤ j ∧ j < 2 ^ 62) ∧ Q (rngD 0 j.toNat) m1
theorem di_range1 {a : Expr} {ta : DTA} {p pos : Pos} (hg : Gl X "range") (hm : X.mg "range" = none) (ha : DA X W WD [a] ta) (hs : starEach [a] X.env = [(false, eval a X.env)] := by rfl) : DI X W WD tg (.Call (.Name "range" p) [a] [] pos) (diR1 ta) := by
  refine PI.imp (pi_range1 hg hm ha hs) fun σ H R h => ?_
  obtain ⟨G, F, r, m, QD, x, t, k⟩ := h
  refine ⟨G, F, r, m, _, x, t, fun G1 H1 m1 ds vs e1 r1 p1 t1 => ?_⟩
  obtain ⟨j, rfl, ⟨h1, h2⟩, t2⟩ := t1
  obtain ⟨v, rfl, q⟩ := rps1 p1
  cases q
  exact ⟨j, rfl, h1, h2, k G1 H1 m1 _ _ e1 r1 (it_rng 0 j.toNat) t2⟩
def diR2 (ta : DTA) : DTI := fun r m Q => ta r m fun ds m1 => ∃ i j : Int, ds = [.int i, .int j] ∧ (-(2 ^ 62) ≤ i ∧ i < 2 ^ 62 ∧ -(2 ^ 62) ≤ j ∧ j < 2 ^ 62) ∧ Q (rngD i (j - i).toNat) m1
theorem di_range2 {a b : Expr} {ta : DTA} {p pos : Pos} (hg : Gl X "range") (hm : X.mg "range" = none) (ha : DA X W WD [a, b] ta) (hs : starEach [a, b] X.env = [(false, eval a X.env), (false, eval b X.env)] := by rfl) (hs2 : starEach [b] X.env = [(false, eval b X.env)] := by rfl) : DI X W WD tg (.Call (.Name "range" p) [a, b] [] pos) (diR2 ta) := by
  refine PI.imp (pi_range2 hg hm ha hs hs2) fun σ H R h => ?_
  obtain ⟨G, F, r, m, QD, x, t, k⟩ := h
  refine ⟨G, F, r, m, _, x, t, fun G1 H1 m1 ds vs e1 r1 p1 t1 => ?_⟩
  obtain ⟨i, j, rfl, hb, t2⟩ := t1
  obtain ⟨v, u, rfl, q, q2⟩ := rps2 p1
  cases q; cases q2
  exact ⟨i, j, rfl, hb, k G1 H1 m1 _ _ e1 r1 (it_rng i _) t2⟩
end

/-! ### for -/
def dLoop (g : DTG) (tb : DTS) : List D → DTS
  | [], DD, r, m => DD.nx r m
  | x :: xs, DD, r, m => g x r m fun r2 m2 => tb { DD with nx := dLoop g tb xs DD, ct := dLoop g tb xs DD, bk := DD.nx } r2 m2
/-- by a word P of the turn -/
def dLoopI (g : DTG) (tb : DTS) (ds : List D) : DTS := fun DD r m => ∃ P : Nat → DSt → M → Prop, P 0 r m ∧ (∀ (i : Nat) (d : D) (r : DSt) (m : M), ds[i]? = some d → P i r m → g d r m fun r2 m2 => tb { DD with nx := P (i + 1), ct := P (i + 1), bk := DD.nx } r2 m2) ∧ ∀ r m, P ds.length r m → DD.nx r m
/-- turn by turn -/
theorem loop_each {g : DTG} {tb : DTS} {ds : List D} {DD : DEnds} {r : DSt} {m : M} (h : dLoop g tb ds DD r m) : dLoopI g tb ds DD r m := by
  refine ⟨fun i r m => dLoop g tb (ds.drop i) DD r m, h, fun i d r m hd p => ?_, fun r m p => ?_⟩
  · obtain ⟨hlt, rfl⟩ := List.getElem?_eq_some_iff.mp hd
    have hdrop : ds.drop i = ds[i] :: ds.drop (i + 1) := (List.getElem_cons_drop hlt).symm
    dsimp only at p
    rw [hdrop] at p
    exact p
  · dsimp only at p
    rw [List.drop_length] at p
    exact p
def dFor (ti : DTI) (g : DTG) (tb : DTS) : DTS := fun DD r m => ti r m fun ds m1 => dLoopI g tb ds DD r m1
section
variable {X : Cx} {W : WX} {WD : DWX} {tg iter : Expr} {body : List Stmt} {ti : DTI} {g : DTG} {tb : DTS} {pos : Pos}
theorem ds_for (hp : PassesOwn (model X.prog X.w) X.A X.env X.xe) (hc : X.calm = true) (hi : DI X W WD tg iter ti) (hg : DG X W WD tg g) (hb : DSs X W WD body tb)
    (hs : ∀ x, foldedSetIterable iter X.env x = pure x := by intro _; rfl) : DS X W WD (.For tg iter body [] pos) (dFor ti g tb) := by
  refine PS.imp (ps_for hp hc hi hg hb hs) fun E σ H h => ?_
  obtain ⟨G, F, r, m, DD, x, t, k⟩ := h
  refine ⟨G, F, r, m, _, x, t, fun G1 H1 m1 ds J e1 r1 it t1 => ?_⟩
  obtain ⟨P, p0, turn, done⟩ := t1
  refine ⟨fun i n σ H => n = ds.length - i ∧ i ≤ ds.length ∧ ∃ G2 r2 m2, Same G1 G2 ∧ Sx X.K W WD G2 H F r2 σ m2 ∧ P i r2 m2, ⟨ds.length, rfl, Nat.zero_le _, G1, r, m1, Same.refl G1, x.step e1 r1, p0⟩, ?_⟩
  rintro i n σ2 H2 ⟨rfl, hi, G2, r2, m2, e2, x2, p2⟩
  by_cases hlt : i < ds.length
  · have hd : ds[i]? = some ds[i] := by simp [hlt]
    refine .inr ⟨it.go i H2 hlt (e2.trans x2.rep.ext), fun σ3 H3 => ∃ G3 r3 m3, Same G1 G3 ∧ Sx X.K W WD G3 H3 F r3 σ3 m3 ∧ P (i + 1) r3 m3, fun σ3 H3 h3 => ⟨ds.length - (i + 1), by omega, rfl, hlt, h3⟩, fun v H3 y => ?_⟩
    obtain ⟨G3, e3, rep3, p3⟩ := it.yld i G2 H2 F m2 v H3 ds[i] e2 x2.rep hd y
    refine ⟨G3, F, r2, m2, ds[i], _, x2.step e3 rep3, p3, turn i ds[i] r2 m2 hd p2, fun G4 H4 m4 r4 s4 e4 rep4 rs4 t4 => ?_⟩
    have e14 : Same G1 G4 := (e2.trans e3).trans e4
    refine ⟨G4, F, r4, m4, _, x2.to (e3.trans e4) rep4 rs4, t4, ⟨fun G5 H5 m5 r5 s5 e5 rep5 rs5 t5 => ?_, k.rt.mono (e1.trans e14), k.nx.mono (e1.trans e14), fun G5 H5 m5 r5 s5 e5 rep5 rs5 t5 => ?_⟩⟩
    · exact ⟨G5, r5, m5, e14.trans e5, x2.to ((e3.trans e4).trans e5) rep5 rs5, t5⟩
    · exact ⟨G5, r5, m5, e14.trans e5, x2.to ((e3.trans e4).trans e5) rep5 rs5, t5⟩
  · have e : i = ds.length := by omega
    subst e
    exact .inl ⟨it.stop H2 (e2.trans x2.rep.ext), k.nx G2 H2 m2 r2 σ2 (e1.trans e2) x2.rep x2.rs (done r2 m2 p2)⟩
/-- while: a word and a measure -/
def dWhile (c : DTT) (tb : DTS) : DTS := fun DD r m => ∃ P : Nat → DSt → M → Prop, (∃ n, P n r m) ∧ ∀ n r m, P n r m →
  c r m fun b m1 => if b = true then tb { DD with nx := fun r' m' => ∃ n', n' < n ∧ P n' r' m', ct := fun r' m' => ∃ n', n' < n ∧ P n' r' m', bk := DD.nx } r m1 else DD.nx r m1
theorem ds_while {c : Expr} {tc : DTT} (hp : PassesOwn (model X.prog X.w) X.A X.env X.xe) (hc : DT X W WD c tc) (hb : DSs X W WD body tb) : DS X W WD (.While c body [] pos) (dWhile tc tb) := by
  refine PS.imp (ps_while hp hc hb) fun E σ H h => ?_
  obtain ⟨G, F, r, m, DD, x, ⟨P, ⟨n0, p0⟩, turn⟩, k⟩ := h
  refine ⟨fun n σ H => ∃ G2 r2 m2, Same G G2 ∧ Sx X.K W WD G2 H F r2 σ m2 ∧ P n r2 m2, ⟨n0, G, r, m, Same.refl G, x, p0⟩, ?_⟩
  rintro n σ2 H2 ⟨G2, r2, m2, e2, x2, p2⟩
  refine ⟨G2, F, r2, m2, _, x2, turn n r2 m2 p2, fun G3 H3 m3 b e3 rep3 t3 => ?_⟩
  cases b with
  | false => exact k.nx G3 H3 m3 r2 σ2 (e2.trans e3) rep3 (x2.rs.mono e3) t3
  | true =>
    refine ⟨fun σ4 H4 => ∃ n', n' < n ∧ ∃ G4 r4 m4, Same G G4 ∧ Sx X.K W WD G4 H4 F r4 σ4 m4 ∧ P n' r4 m4, fun σ4 H4 h4 => h4, ?_⟩
    have e := e2.trans e3
    refine ⟨G3, F, r2, m3, _, x2.step e3 rep3, t3, ⟨fun G4 H4 m4 r4 s4 e4 rep4 rs4 t4 => ?_, k.rt.mono e, k.nx.mono e, fun G4 H4 m4 r4 s4 e4 rep4 rs4 t4 => ?_⟩⟩
    · obtain ⟨n', hn, p⟩ := t4
      exact ⟨n', hn, G4, r4, m4, e.trans e4, x2.to (e3.trans e4) rep4 rs4, p⟩
    · obtain ⟨n', hn, p⟩ := t4
      exact ⟨n', hn, G4, r4, m4, e.trans e4, x2.to (e3.trans e4) rep4 rs4, p⟩
end

/-! ### comprehensions -/
/-- a comprehension's target: one name, a tuple of names -/
inductive CT where
  | one (i : Nat)
  | tup (js : List Nat)
def setAll : DSt → List Nat → List D → Option DSt
  | r, [], [] => some r
  | r, j :: js, d :: ds => setAll (r.set j (some d)) js ds
  | _, _, _ => none
def ctD : CT → D → DSt → Option DSt
  | .one i, d, r => some (r.set i (some d))
  | .tup js, .tup ds, r => setAll r js ds
  | _, _, _ => none
def gNames : List Nat → TGs
  | [] => gNil
  | j :: js => gCons (gName j) (gNames js)
def ctG (K : PySem.W.Frag) : CT → TG
  | .one i => gName i
  | .tup js => gTup K js.length (gNames js)
def CT.in (vs : List Nat) : CT → Prop
  | .one i => i ∈ vs
  | .tup js => ∀ j ∈ js, j ∈ vs
theorem wipe_set (σ : L2.St) (j : Nat) (v : Option V) : ∀ vs : List Nat, j ∈ vs → wipe (σ.set j v) vs = wipe σ vs
  | [], h => nomatch h
  | k :: vs, h => by
    show (wipe (σ.set j v) vs).set k none = (wipe σ vs).set k none
    by_cases hk : j ∈ vs
    · rw [wipe_set σ j v vs hk]
    · have e : j = k := by
        rcases List.mem_cons.mp h with h | h
        · exact h
        · exact absurd h hk
      subst e
      have comm : ∀ (vs : List Nat) (σ : L2.St), j ∉ vs → wipe (σ.set j v) vs = (wipe σ vs).set j v := by
        intro vs
        induction vs with
        | nil => intro σ _; rfl
        | cons a vs ih =>
          intro σ hn
          show (wipe (σ.set j v) vs).set a none = ((wipe σ vs).set a none).set j v
          rw [ih σ (fun z => hn (List.mem_cons_of_mem _ z))]
          exact List.set_comm _ _ (fun z => hn (by rw [z]; exact List.mem_cons_self))
      rw [comm vs σ hk, List.set_set]
theorem wipe_wipe (σ : L2.St) : ∀ vs ws : List Nat, (∀ j ∈ vs, j ∈ ws) → wipe (wipe σ vs) ws = wipe σ ws
  | [], _, _ => rfl
  | k :: vs, ws, h => by
    show wipe ((wipe σ vs).set k none) ws = wipe σ ws
    rw [wipe_set _ k none ws (h k List.mem_cons_self), wipe_wipe σ vs ws fun j hj => h j (List.mem_cons_of_mem _ hj)]
def wipeD (r : DSt) : List Nat → DSt
  | [] => r
  | v :: vs => (wipeD r vs).set v none
theorem rs_none {K : PySem.W.Frag} {G : Hp} {r : DSt} {s : L2.St} (h : Rs K G r s) (i : Nat) (v : Option V) : Rs K G (r.set i none) (s.set i v) := ⟨by simp [h.len], fun j e hj => by
  by_cases hi : i = j
  · subst hi
    by_cases hl : i < r.length
    · rw [List.getElem?_set_self hl] at hj
      cases hj
    · rw [List.getElem?_eq_none (by simp; omega)] at hj
      cases hj
  · rw [List.getElem?_set_ne hi] at hj ⊢
    exact h.at_ j e hj⟩
theorem rs_wipe {K : PySem.W.Frag} {G : Hp} {r : DSt} {s : L2.St} (h : Rs K G r s) : ∀ vs : List Nat, Rs K G (wipeD r vs) (wipe s vs)
  | [] => h
  | v :: vs => rs_none (rs_wipe h vs) v none
theorem names_ok {K : PySem.W.Frag} {G : Hp} {vs : List Nat} {H : Hp} {Q : L2.St → Hp → Prop} {s0 : L2.St} : ∀ {js : List Nat} {r r2 : DSt} {s : L2.St} {ds : List D} {us : List V}, (∀ j ∈ js, j ∈ vs) → Rs K G r s → Rps K G ds us → setAll r js ds = some r2 → wipe s vs = s0 →
    (∀ s2, Rs K G r2 s2 → wipe s2 vs = s0 → Q s2 H) → gNames js us s H Q
  | [], r, r2, s, [], us, _, rs, p, e, w, k => by
    cases p; cases e
    exact ⟨rfl, k s rs w⟩
  | [], r, r2, s, d :: ds, us, _, rs, p, e, w, k => by cases e
  | j :: js, r, r2, s, [], us, _, rs, p, e, w, k => by cases e
  | j :: js, r, r2, s, d :: ds, us, hj, rs, p, e, w, k => by
    cases p with | cons p1 p2 =>
    refine ⟨_, _, rfl, ?_⟩
    exact names_ok (r2 := r2) (fun i hi => hj i (List.mem_cons_of_mem _ hi)) (rs.set p1) p2 e (by rw [wipe_set _ _ _ _ (hj j List.mem_cons_self)]; exact w) k
theorem setAll_len : ∀ {js : List Nat} {ds : List D} {r r2 : DSt}, setAll r js ds = some r2 → ds.length = js.length
  | [], [], _, _, _ => rfl
  | [], _ :: _, _, _, e => by cases e
  | _ :: _, [], _, _, e => by cases e
  | j :: js, d :: ds, r, r2, e => congrArg Nat.succ (setAll_len (js := js) (ds := ds) e)
theorem ct_ok {K : PySem.W.Frag} {G : Hp} {vs : List Nat} {H : Hp} {Q : L2.St → Hp → Prop} {c : CT} {r r2 : DSt} {s : L2.St} {d : D} {v : V} (hc : c.in vs) (rs : Rs K G r s) (p : Rp K G d v) (e : ctD c d r = some r2) (sm : Same G H)
    (k : ∀ s2, Rs K G r2 s2 → wipe s2 vs = wipe s vs → Q s2 H) : ctG K c v s H Q := by
  cases c with
  | one i =>
    cases e
    exact k _ (rs.set p) (wipe_set _ _ _ _ hc)
  | tup js =>
    cases d with
    | tup ds =>
      cases p with | tup h1 r1 =>
      exact ⟨_, _, rfl, same_sqt sm h1, by rw [← r1.length]; exact setAll_len e, names_ok hc rs r1 e rfl k⟩
    | _ => cases e
/-- the turns: what is made so far at the end of acc -/
def dLcL (c : CT) (vs : List Nat) (tt : DTT) (te : DTE) : List D → List D → DSt → M → (List D → M → Prop) → Prop
  | [], acc, _, m, Q => Q acc m
  | x :: xs, acc, r, m, Q => ∃ r2, ctD c x (wipeD r vs) = some r2 ∧ tt r2 m fun b m1 => if b = true then te r2 m1 fun y m2 => acc.length < sizeLine ∧ dLcL c vs tt te xs (acc ++ [y]) r m2 Q else dLcL c vs tt te xs acc r m1 Q
def dLc (mt : Bool) (ti : DTI) (c : CT) (vs : List Nat) (tt : DTT) (te : DTE) : DTE := fun r m Q => ti r m fun ds m1 => dLcL c vs tt te ds [] r m1 fun acc m2 => mkL mt acc m2 Q
/-- every item kept, its element f of it, nothing changed -/
theorem lc_pure {c : CT} {vs : List Nat} {te : DTE} {r : DSt} {m : M} (f : D → D) : ∀ {xs acc : List D} {Q : List D → M → Prop}, acc.length + xs.length ≤ sizeLine → (∀ x ∈ xs, ∃ r2, ctD c x (wipeD r vs) = some r2 ∧ ∀ Q' : D → M → Prop, Q' (f x) m → te r2 m Q') → Q (acc ++ xs.map f) m → dLcL c vs (fun _ m Q => Q true m) te xs acc r m Q
  | [], acc, Q, _, _, q => by
    show Q acc m
    rw [List.map_nil, List.append_nil] at q
    exact q
  | x :: xs, acc, Q, hz, h, q => by
    obtain ⟨r2, e, t⟩ := h x List.mem_cons_self
    have hz' : acc.length + (xs.length + 1) ≤ sizeLine := hz
    refine ⟨r2, e, ?_⟩
    show (if true = true then _ else _)
    rw [if_pos rfl]
    refine t _ ⟨by omega, lc_pure f (by rw [List.length_append]; simp; omega) (fun y hy => h y (List.mem_cons_of_mem _ hy)) ?_⟩
    rw [List.append_assoc]
    exact q
/-- .. with a test -/
theorem lc_filter {c : CT} {vs : List Nat} {tt : DTT} {te : DTE} {r : DSt} {m : M} (p : D → Bool) (f : D → D) : ∀ {xs acc : List D} {Q : List D → M → Prop}, acc.length + xs.length ≤ sizeLine →
    (∀ x ∈ xs, ∃ r2, ctD c x (wipeD r vs) = some r2 ∧ (∀ Q' : Bool → M → Prop, Q' (p x) m → tt r2 m Q') ∧ (p x = true → ∀ Q' : D → M → Prop, Q' (f x) m → te r2 m Q')) → Q (acc ++ (xs.filter p).map f) m → dLcL c vs tt te xs acc r m Q
  | [], acc, Q, _, _, q => by
    show Q acc m
    rw [List.filter_nil, List.map_nil, List.append_nil] at q
    exact q
  | x :: xs, acc, Q, hz, h, q => by
    obtain ⟨r2, e, t, u⟩ := h x List.mem_cons_self
    have hz' : acc.length + (xs.length + 1) ≤ sizeLine := hz
    refine ⟨r2, e, t _ ?_⟩
    rw [List.filter_cons] at q
    cases hp : p x with
    | true =>
      rw [if_pos rfl]
      rw [hp, if_pos rfl] at q
      refine u hp _ ⟨by omega, lc_filter p f (by rw [List.length_append]; simp; omega) (fun y hy => h y (List.mem_cons_of_mem _ hy)) ?_⟩
      rw [List.append_assoc]
      exact q
    | false =>
      rw [if_neg Bool.false_ne_true]
      rw [hp, if_neg Bool.false_ne_true] at q
      exact lc_filter p f (by omega) (fun y hy => h y (List.mem_cons_of_mem _ hy)) q
section
variable {X : Cx} {W : WX} {WD : DWX}
abbrev DTs (X : Cx) (W : WX) (WD : DWX) (ifs : List Expr) (t : DTT) : Prop := PTs X ifs (upT X.K W WD t)
theorem PTs.imp {ifs : List Expr} {t t' : TT} (h : PTs X ifs t) (i : ∀ σ H Q, t' σ H Q → t σ H Q) : PTs X ifs t' := ⟨fun pins s σ H Q I q => h.run pins s σ H Q I (i σ H Q q)⟩
def dYes : DTT := fun _ m Q => Q true m
theorem dts_nil : DTs X W WD [] dYes := by
  refine PTs.imp pts_nil fun σ H Q h => ?_
  obtain ⟨G, F, ρ, m, QD, x, t, k⟩ := h
  exact k G H m true (Same.refl G) x.rep t
theorem dts_one {c : Expr} {t : DTT} (h : DT X W WD c t) : DTs X W WD [c] t := pts_one h
abbrev W0 : WX := fun _ _ _ _ => False
abbrev WD0 : DWX := fun _ _ _ => False
theorem lc_up {K : PySem.W.Frag} {ti : DTI} {c : CT} {vs : List Nat} {tt : DTT} {te : DTE} {mt : Bool} {σ : L2.St} {H : Hp} {Q : VK} (hc : c.in vs) (h : up K W WD (dLc mt ti c vs tt te) σ H Q) : tLc (upI K W WD ti) (ctG K c) (upT K W0 WD0 tt) (up K W0 WD0 te) vs σ H Q := by
  obtain ⟨G, F, r, m, QD, x, t, k⟩ := h
  refine ⟨G, F, r, m, _, x, t, fun G1 H1 m1 ds J e1 r1 it t1 => ?_⟩
  intro Dl hD
  have hF : F Dl = none := r1.frm.free hD
  refine ⟨fun i n H => n = ds.length - i ∧ i ≤ ds.length ∧ ∃ G2 m2 acc va, Same G1 G2 ∧ Rep K G2 H (upd F Dl (.lst va)) m2 ∧ Rps K G2 acc va ∧ dLcL c vs tt te (ds.drop i) acc r m2 (fun acc m => mkL mt acc m QD), ⟨ds.length, rfl, Nat.zero_le _, G1, m1, [], [], Same.refl G1, r1.hide hD, .nil, t1⟩, ?_⟩
  rintro i n H2 ⟨rfl, hi, G2, m2, acc, va, e2, rep2, ra, t2⟩
  by_cases hlt : i < ds.length
  · have hdrop : ds.drop i = ds[i] :: ds.drop (i + 1) := (List.getElem_cons_drop hlt).symm
    rw [hdrop] at t2
    obtain ⟨r2, ec, t2⟩ := t2
    refine .inr ⟨it.go i H2 hlt (e2.trans rep2.ext), fun H3 => ∃ G3 m3 acc va, Same G1 G3 ∧ Rep K G3 H3 (upd F Dl (.lst va)) m3 ∧ Rps K G3 acc va ∧ dLcL c vs tt te (ds.drop (i + 1)) acc r m3 (fun acc m => mkL mt acc m QD), fun H3 h3 => ⟨ds.length - (i + 1), by omega, rfl, hlt, h3⟩, fun v H3 y => ?_⟩
    obtain ⟨G3, e3, rep3, p3⟩ := it.yld i G2 H2 _ m2 v H3 ds[i] e2 rep2 (by simp [hlt]) y
    have e03 : Same G G3 := (e1.trans e2).trans e3
    refine ct_ok hc (rs_wipe (x.rs.mono e03) vs) p3 ec rep3.ext fun s2 rs2 w2 => ?_
    refine ⟨w2.trans (wipe_wipe σ vs vs fun _ h => h), G3, _, r2, m2, _, ⟨rep3, rs2, Lx.no⟩, t2, fun G4 H4 m4 b e4 rep4 t4 => ?_⟩
    cases b with
    | false => exact ⟨G4, m4, acc, va, (e2.trans e3).trans e4, rep4, ra.mono (e3.trans e4), t4⟩
    | true =>
      refine ⟨G4, _, r2, m4, _, ⟨rep4, rs2.mono e4, Lx.no⟩, t4, fun G5 H5 m5 d v e5 rep5 p5 t5 => ?_⟩
      have ra5 := ra.mono ((e3.trans e4).trans e5)
      exact ⟨va, rep5.frm Dl _ upd_same, by rw [← ra5.length]; exact t5.1, G5, m5, acc ++ [d], va ++ [v], ((e2.trans e3).trans e4).trans e5, rep5.turn, ra5.append (.cons p5 .nil), t5.2⟩
  · have e : i = ds.length := by omega
    subst e
    rw [List.drop_length] at t2
    refine .inl ⟨it.stop H2 (e2.trans rep2.ext), ?_⟩
    cases mt with
    | false =>
      obtain ⟨e3, rep3, p3⟩ := rep2.outL hF ra
      exact k _ H2 m2 _ _ ((e1.trans e2).trans e3) rep3 p3 t2
    | true =>
      obtain ⟨mp, rep3⟩ := rep2.outM hF ra
      exact k _ H2 _ _ _ (e1.trans e2) rep3 (.ref Dl) (t2 Dl mp)
/-- the target's own walk in the block -/
theorem pg_ct1 {Y : Cx} {i : Nat} {x : Str} {pos : Pos} (hN : Y.N.Nodup) (hi : Y.N[i]? = some x) (hx : Loc Y.env.scope x) (hf : Y.fn x = true ∨ Y.env.scope.names.lookup x = some .local := by first | exact .inl rfl | exact .inr rfl | assumption) : PG Y (.Name x pos) (ctG Y.K (.one i)) := pg_name hN hi hx hf
theorem pg_ctT {Y : Cx} {es : List Expr} {js : List Nat} {k : Nat} {pos : Pos} (hc : Y.calm = true) (h : PGs Y es (gNames js)) (hn : (assignEach es Y.env).length = js.length := by rfl) (hst : (assignEach es Y.env).findIdx? (·.1) = none := by rfl) : PG Y (.Tuple es k pos) (ctG Y.K (.tup js)) := pg_tup hc h hn hst
theorem de_lc (mt : Bool) {elt tg iter : Expr} {ifs : List Expr} {scope : Scope} {own : List (Str × Nat)} {pos : Pos} {ti : DTI} {c : CT} {tt : DTT} {te : DTE} (hc : X.calm = true) (hN : X.N.Nodup) (hin : c.in (own.map (·.2))) (hi : DI X W WD tg iter ti) (ok : BlkOk X.N X.env.scope scope own)
    (hg : ∀ (s : Shared) (H : Hp) (C : Addr) (cl : List (Str × Addr)) (fp : List Addr), PG (X.blk s H scope (compEnvC scope cl C X.env) fp) tg (ctG X.K c)) (ht : ∀ (s : Shared) (H : Hp) (C : Addr) (cl : List (Str × Addr)) (fp : List Addr), DTs (X.blk s H scope (compEnvC scope cl C X.env) fp) W0 WD0 ifs tt)
    (he : ∀ (s : Shared) (H : Hp) (C : Addr) (cl : List (Str × Addr)) (fp : List Addr), DE (X.blk s H scope (compEnvC scope cl C X.env) fp) W0 WD0 elt te) (hs : ∀ x, foldedSetIterable iter X.env x = pure x := by intro _; rfl) :
    DE X W WD (.ListComp elt [⟨tg, iter, ifs, 0⟩] scope pos) (dLc mt ti c (own.map (·.2)) tt te) :=
  PE.imp (pe_lc hc hN hi ok hg ht he hs) fun _ _ _ h => lc_up hin h
/-- name = [..] -/
def dSetLc (i : Nat) (te : DTE) : DTS := dSet i te
theorem ds_setLc (mt : Bool) {i : Nat} {y : Str} {py : Pos} {elt tg iter : Expr} {ifs : List Expr} {scope : Scope} {own : List (Str × Nat)} {pos spos : Pos} {ti : DTI} {c : CT} {tt : DTT} {te : DTE} (hc : X.calm = true) (hN : X.N.Nodup) (hy : X.N[i]? = some y) (hyl : X.env.scope.names.lookup y = some .local)
    (hsw : swapsWith (.ListComp elt [⟨tg, iter, ifs, 0⟩] scope pos) (some (.Name y py)) spos.line X.env = pure true) (hin : c.in (own.map (·.2))) (hi : DI X W WD tg iter ti) (ok : BlkOk X.N X.env.scope scope own)
    (hg : ∀ (s : Shared) (H : Hp) (C : Addr) (cl : List (Str × Addr)) (fp : List Addr), PG (X.blk s H scope (compEnvC scope cl C X.env) fp) tg (ctG X.K c)) (ht : ∀ (s : Shared) (H : Hp) (C : Addr) (cl : List (Str × Addr)) (fp : List Addr), DTs (X.blk s H scope (compEnvC scope cl C X.env) fp) W0 WD0 ifs tt)
    (he : ∀ (s : Shared) (H : Hp) (C : Addr) (cl : List (Str × Addr)) (fp : List Addr), DE (X.blk s H scope (compEnvC scope cl C X.env) fp) W0 WD0 elt te) (hs : ∀ x, foldedSetIterable iter X.env x = pure x := by intro _; rfl) :
    DS X W WD (.Assign [.Name y py] (.ListComp elt [⟨tg, iter, ifs, 0⟩] scope pos) spos) (dSet i (dLc mt ti c (own.map (·.2)) tt te)) := by
  refine PS.imp (ps_setLc (tt := upT X.K W0 WD0 tt) (te := up X.K W0 WD0 te) hc hN hy hyl hsw hi ok hg ht he hs) fun E σ H h => ?_
  obtain ⟨G, F, r, m, DD, x, t, k⟩ := h
  have h2 : up X.K W WD (dLc mt ti c (own.map (·.2)) tt te) σ H (fun v H1 => E.nx (σ.set i (some v)) H1) := ⟨G, F, r, m, _, x, t, fun G1 H1 m1 d v e1 p1 q1 t1 => k.nx G1 H1 m1 _ _ e1 p1 ((x.rs.mono e1).set q1) t1⟩
  exact lc_up hin h2
end
end DL

set_option Elab.async false
set_option linter.all false
set_option maxRecDepth 100000
set_option maxHeartbeats 4000000
namespace DL
open PySem PySem.Spec PyProof.Rows L2

/-! ### promises over deep data -/
abbrev DSp := List D → M → (D → M → Prop) → (XD → M → Prop) → Prop
def liftSp (K : PySem.W.Frag) (sp : DSp) : Sp := fun vs H Q E => ∃ (G F : Hp) (m : M) (ds : List D) (QD : D → M → Prop) (ED : XD → M → Prop), Rep K G H F m ∧ Rps K G ds vs ∧ sp ds m QD ED ∧ Kv K G F QD Q ∧
  ∀ (G' H' : Hp) (m' : M) (C : Addr) (fs : List (Str × D)) (d : Option Addr), Same G G' → Rep K G' H' F m' → RpX K G' d fs → ED ⟨C, fs⟩ m' → E (.ref C) d H'
def startD (N : List Str) (ds : List D) : DSt := ds.map some ++ List.replicate (N.length - ds.length) none
theorem rs_start {K : PySem.W.Frag} {G : Hp} {N : List Str} {ds : List D} {vs : List V} (h : Rps K G ds vs) : Rs K G (startD N ds) (L2.start N vs) := by
  refine ⟨by simp [startD, L2.start, h.length], fun i d e => ?_⟩
  unfold startD at e
  unfold L2.start
  by_cases hi : i < ds.length
  · rw [List.getElem?_append_left (by simpa using hi), List.getElem?_map] at e
    cases q : ds[i]? with
    | none => rw [q] at e; cases e
    | some d2 =>
      rw [q] at e
      cases e
      obtain ⟨v, h1, h2⟩ := h.get q
      refine ⟨v, ?_, h2⟩
      rw [List.getElem?_append_left (by rw [List.length_map, ← h.length]; exact hi), List.getElem?_map, h1]
      rfl
  · rw [List.getElem?_append_right (by simpa using hi)] at e
    by_cases hj : i - ds.length < N.length - ds.length
    · rw [List.length_map, List.getElem?_replicate, if_pos hj] at e
      cases e
    · rw [List.length_map, List.getElem?_replicate, if_neg hj] at e
      cases e
section
variable {P : Program} {w : World} {K : PySem.W.Frag} {mg : Str → Option Value} {base : Heap} {x qual : Str} {params : Arguments} {body : List Stmt} {scope : Scope} {dvs : List V} {kws : List (Str × V)} {f : Addr} {fd : FuncData}
abbrev CXo (P : Program) (w : World) (K : PySem.W.Frag) (mg : Str → Option Value) (base : Heap) (N : List Str) (qual : Str) (scope : Scope) (f : Addr) (cdv : Value) (A : Around) (outer : List Env) (s : Shared) (H : Hp) (E : XK) : Cx := cxOf (L2.CX P w) P w K mg base N qual scope f cdv A outer s H E
abbrev WE0 (E : XK) : WX := fun cls d _ H => E cls d H
/-- THE RULE for a def -/
theorem fn_d {N ps : List Str} {k : Nat} {sp : DSp} (F : FunD K x qual params body scope dvs kws f fd) (S : FnScope N ps scope) (len : ∀ ds m Q E, sp ds m Q E → ds.length = ps.length) (t : DWX → DTS)
    (hb : ∀ (cdv : Value) (A : Around) (outer : List Env) (s : Shared) (H : Hp) (E : XK) (WD : DWX), Room k (A.deeper (envOfC qual scope s.heap.objs.size f cdv)) → Takes (CXo P w K mg base N qual scope f cdv A outer s H E) (WE0 E) →
      PassesOwn (model P w) (CXo P w K mg base N qual scope f cdv A outer s H E).A (CXo P w K mg base N qual scope f cdv A outer s H E).env (CXo P w K mg base N qual scope f cdv A outer s H E).xe → DSs (CXo P w K mg base N qual scope f cdv A outer s H E) (WE0 E) WD body (t WD))
    (pure_ : ∀ ds m Q E, sp ds m Q E → t (fun x _ m => E x m) { nx := fun _ m => Q .non m, rt := Q } (startD N ds) m) : FnOk P w K mg base (L2.CX P w) (k + 1) f fd ps (liftSp K sp) := by
  refine F.ok S (fun vs H Q E h => ?_) (fun cdv A outer s H vs Q E hr h => ?_)
  · obtain ⟨G, F, m, ds, QD, ED, rep, rs, hs, _⟩ := h
    rw [← rs.length]
    exact len ds m QD ED hs
  · obtain ⟨G, F, m, ds, QD, ED, rep, rs, hs, kv, kx⟩ := h
    refine ⟨_, hb cdv A outer s H E (fun x _ m => ED x m) hr (takes_of rfl rfl rfl rfl) (passes_of rfl), ?_⟩
    refine ⟨G, F, startD N ds, m, _, ⟨rep, rs_start rs, fun G' H' m' r' s' C fs d e r rs' rx wd => kx G' H' m' C fs d e r rx wd⟩, pure_ ds m QD ED hs, ⟨fun G' H' m' r' s' e r rs' q => kv G' H' m' _ _ e r .non q, kv, ?_, ?_⟩⟩
    · exact fun _ _ _ _ _ _ _ _ q => q.elim
    · exact fun _ _ _ _ _ _ _ _ q => q.elim
end

/-! ### calls of own defs -/
def dCall (sp : DSp) (WD : DWX) (dds : List D) (t : DTA) : DTE := fun r m Q => t r m fun ds m1 => sp (ds ++ dds) m1 Q fun x m2 => WD x r m2
theorem lift_call {K : PySem.W.Frag} {W : WX} {WD : DWX} {G H F : Hp} {r : DSt} {σ : L2.St} {m : M} {sp : DSp} {ds : List D} {vs : List V} {QD : D → M → Prop} {Q : VK} (x : Sx K W WD G H F r σ m) (rs : Rps K G ds vs) (t : sp ds m QD fun x m2 => WD x r m2) (k : Kv K G F QD Q) : liftSp K sp vs H Q (WE W σ) :=
  ⟨G, F, m, ds, QD, _, x.rep, rs, t, k, fun G' H' m' C fs d e r' rx wd => x.lx G' H' m' r σ C fs d e r' (x.rs.mono e) rx wd⟩
section
variable {X : Cx} {W : WX} {WD : DWX} {k : Nat} {f C g : Addr} {fd : FuncData} {ps : List Str} {sp : DSp} {dvs : List V} {dds : List D} {ds : List Value} {x mn : Str} {p pos apos : Pos} {e o : Expr} {es : List Expr} {ta : DTE} {t : DTA}
theorem de_call (F : FnOk X.prog X.w X.K X.mg X.base (L2.CX X.prog X.w) k f fd ps (liftSp X.K sp)) (hr : Room k X.A) (hg : Gl X x) (hm : X.mg x = some (.ref f)) (hk : PySem.W.keepIn X.K (.ref f) = true) (hb : Binds X.K fd ps ds) (hd : Vals dvs ds) (hdd : ∀ G, Rps X.K G dds dvs) (tk : Takes X W)
    (ha : DA X W WD (e :: es) t) (hdb : (x == ("__debug__" : Str)) = false := by decide) (he : starEach (e :: es) X.env = (false, eval e X.env) :: starEach es X.env := by rfl) (hpl : (backTo pos (starEach es X.env)).any (·.1) = false := by rfl) :
    DE X W WD (.Call (.Name x p) (e :: es) [] pos) (dCall sp WD dds t) := by
  refine PE.imp (pe_callSD (E := WE W) F hr hg hm hk hb hd (fun σ => passAt tk σ) ha hdb he hpl) fun σ H Q h => ?_
  obtain ⟨G, F, r, m, QD, x, t, k⟩ := h
  refine ⟨G, F, r, m, _, x, t, fun G1 H1 m1 ds vs e1 r1 p1 t1 => ?_⟩
  exact lift_call (x.step e1 r1) (p1.append (hdd G1)) t1 (k.mono e1)
/-- a call without arguments -/
theorem de_call0 (F : FnOk X.prog X.w X.K X.mg X.base (L2.CX X.prog X.w) k f fd ps (liftSp X.K sp)) (hr : Room k X.A) (hg : Gl X x) (hm : X.mg x = some (.ref f)) (hk : PySem.W.keepIn X.K (.ref f) = true) (hb : Binds X.K fd ps ds) (hd : Vals dvs ds) (hdd : ∀ G, Rps X.K G dds dvs) (tk : Takes X W)
    (hdb : (x == ("__debug__" : Str)) = false := by decide) : DE X W WD (.Call (.Name x p) [] [] pos) (dCall sp WD dds daNil) := by
  refine PE.imp (t := fun σ H Q => liftSp X.K sp dvs H Q (WE W σ)) ⟨fun pins s σ H Q I h => ?_⟩ fun σ H Q h => ?_
  · refine wpAny_Call_Name_kw (ld_glob I hg hm ?_ hdb)
    exact PySem.W.callWith_K0 I.kIn hk (run_fnSD (us := []) (vs := []) (E := WE W) F hr hb hd (passAt tk σ) I .nil h)
  · obtain ⟨G, F, r, m, QD, x, t, k⟩ := h
    exact lift_call x (hdd G) t k
/-! ### instances -/
def insOf (m : M) : D → Option (Addr × List (Str × D))
  | .ins C fs => some (C, fs)
  | .ref a => (m a).bind fun o => match o with
    | .ins C fs => some (C, fs)
    | _ => none
  | _ => none
theorem insOf_ref {m : M} {a C : Addr} {fs : List (Str × D)} (h : m a = some (.ins C fs)) : insOf m (.ref a) = some (C, fs) := by
  dsimp only [insOf]; rw [h]; rfl
theorem ins_ok {K : PySem.W.Frag} {G H F : Hp} {m : M} {d : D} {v : V} {C : Addr} {fs : List (Str × D)} (r : Rep K G H F m) (p : Rp K G d v) (e : insOf m d = some (C, fs)) : ∃ a dx fv, v = .ref a ∧ H a = some (.ins C dx fv) ∧ Rpf K G fs fv := by
  cases d with
  | ins C' fs' => cases e; cases p with | ins h1 r1 => exact ⟨_, _, _, rfl, r.ext _ _ h1, r1⟩
  | ref a =>
    cases p
    dsimp only [insOf] at e
    cases q : m a with
    | none => rw [q] at e; cases e
    | some o =>
      rw [q] at e
      cases o with
      | ins C' fs' =>
        obtain ⟨_, _, u, h3, h4⟩ := r.mo a _ q
        obtain ⟨dx, fv, rfl, h5⟩ := h4.ofIns
        cases e
        exact ⟨_, _, _, rfl, h3, h5⟩
      | _ => cases e
  | _ => cases e
/-- e.f -/
def dFld (K : PySem.W.Frag) (ta : DTE) (f : Str) : DTE := fun r m Q => ta r m fun x m1 => ∃ C fs d, insOf m1 x = some (C, fs) ∧ Cls K C ∧ NoAttr K C f ∧ fs.lookup f = some d ∧ Q d m1
theorem de_fld {f : Str} (he : DE X W WD e ta) (hb : attributeBase e f X.env (eval e X.env) = eval e X.env := by rfl) : DE X W WD (.Attribute e f pos) (dFld X.K ta f) := by
  refine PE.imp (pe_fld he hb) fun σ H Q h => ?_
  obtain ⟨G, F, r, m, QD, x, t, k⟩ := h
  refine ⟨G, F, r, m, _, x, t, fun G1 H1 m1 d1 v1 e1 r1 p1 t1 => ?_⟩
  obtain ⟨C, fs, d, e2, c, n, l, t2⟩ := t1
  obtain ⟨a, dx, fv, rfl, h1, h2⟩ := ins_ok r1 p1 e2
  obtain ⟨v, l2, q2⟩ := h2.lookup l
  exact ⟨a, C, dx, fv, v, rfl, h1, c, n, l2, k G1 H1 m1 d v e1 r1 q2 t2⟩
/-- e.f = v of a mutable instance -/
def dFldS (K : PySem.W.Frag) (ta tv : DTE) (f : Str) : DTS := fun DD r m => tv r m fun y m1 => ta r m1 fun x m2 => ∃ a C fs, x = .ref a ∧ m2 a = some (.ins C fs) ∧ Cls K C ∧ NoAttr K C f ∧ fs.length < 1000 ∧ DD.nx r (mset m2 a (.ins C (putD f y fs)))
theorem ds_fld {value : Expr} {tv : DTE} {f : Str} {pos' : Pos} (ha : DE X W WD o ta) (hv : DE X W WD value tv) (hs : swapsWith value (some (.Attribute o f pos')) pos.line X.env = pure false := by rfl) : DS X W WD (.Assign [.Attribute o f pos'] value pos) (dFldS X.K ta tv f) := by
  refine PS.imp (ps_fld ha hv hs) fun E σ H h => ?_
  obtain ⟨G, F, r, m, DD, x, t, k⟩ := h
  refine ⟨G, F, r, m, _, x, t, fun G1 H1 m1 d1 v1 e1 r1 p1 t1 => ?_⟩
  refine ⟨G1, F, r, m1, _, x.step e1 r1, t1, fun G2 H2 m2 d2 v2 e2 r2 p2 t2 => ?_⟩
  obtain ⟨a, C, fs, rfl, hm, c, n, l, t3⟩ := t2
  cases p2
  obtain ⟨_, _, u, h3, h4⟩ := r2.mo a _ hm
  obtain ⟨dx, fv, rfl, h5⟩ := h4.ofIns
  refine ⟨a, C, dx, fv, rfl, h3, c, n, by rw [← h5.length]; exact l, ?_⟩
  exact k.nx G2 _ _ r σ (e1.trans e2) (r2.write hm (show RpM X.K G2 (.ins C (putD f d1 fs)) (.ins C dx (putF f v1 fv)) from ⟨rfl, h5.put (p1.mono e2)⟩)) (x.rs.mono (e1.trans e2)) t3
/-- o.m(e, ..) -/
def dMeth (C : Addr) (mn : Str) (sp : DSp) (WD : DWX) (dds : List D) (ta : DTE) (t : DTA) : DTE := fun r m Q => ta r m fun x m1 => ∃ fs, insOf m1 x = some (C, fs) ∧ fs.lookup mn = none ∧ t r m1 fun ds m2 => sp (x :: (ds ++ dds)) m2 Q fun x m2 => WD x r m2
def tMethS (C : Addr) (m : Str) (sp : Sp) (dvs : List V) (E : L2.St → XK) (ta : TE) (t : TA) : TE := fun σ H Q => ta σ H fun x H1 => ∃ a dx fs, x = .ref a ∧ H1 a = some (.ins C dx fs) ∧ fs.lookup m = none ∧
  t σ H1 fun vs H2 => sp (x :: (vs ++ dvs)) H2 Q (E σ)
theorem pe_methS {pl : Sem Bool} {sp : Sp} {E : L2.St → XK} {ta : TE} {t : TA} {CX : CXT} (he : PE X o ta) (c : Cls X.K C) (hm : Meth X.K C mn f) (F : FnOk X.prog X.w X.K X.mg X.base CX k f fd ps sp) (hr : Room k X.A) (hb : Binds X.K fd ps ds) (hd : Vals dvs ds) (hx : ∀ σ, PassesAt CX X σ (E σ)) (ha : PA X (e :: es) t)
    (hst : starEach (e :: es) X.env = (false, eval e X.env) :: starEach es X.env := by rfl) (hpl : (backTo pos (starEach es X.env)).any (·.1) = false := by rfl)
    (ht : eval (.Call (.Attribute o mn apos) (e :: es) [] pos) X.env = (do
      let ov ← eval o X.env
      standAt apos.atName
      let (f, first) ← holding [ov] (getMethod ov mn pl)
      callWith pos f first (backTo pos (starEach (e :: es) X.env)) (backToKw pos (keywordEach [] X.env))) := by rfl) :
    PE X (.Call (.Attribute o mn apos) (e :: es) [] pos) (tMethS C mn sp dvs E ta t) := by
  refine ⟨fun pins s σ H Q I h => ?_⟩
  refine PySem.W.methodCall_KW (pl := pl) (thn (he.run pins s σ H _ I h) fun u s1 ⟨x, H1, I1, rx, a, dx, fs, ex, ea, l, q⟩ => ?_) ht
  subst ex
  obtain rfl : u = Value.ref a := rx
  refine getmeth_ok I1 ea c hm l ?_
  refine PySem.W.callWith_K (first := [.ref a]) (h₀ := X.base) I.ok.mod.kin hm.kp (thn (ha.run pos pins s1 σ H1 _ I1 q) fun us s2 ⟨vs, H2, I2, r, q2⟩ => ⟨I2.kIn, ?_⟩) hst hpl
  exact run_fnSD (us := .ref a :: us) (vs := .ref a :: vs) F hr hb hd (hx σ) I2 (.cons rfl r) q2
theorem pe_methS0 {pl : Sem Bool} {sp : Sp} {E : L2.St → XK} {ta : TE} {CX : CXT} (he : PE X o ta) (c : Cls X.K C) (hm : Meth X.K C mn f) (F : FnOk X.prog X.w X.K X.mg X.base CX k f fd ps sp) (hr : Room k X.A) (hb : Binds X.K fd ps ds) (hd : Vals dvs ds) (hx : ∀ σ, PassesAt CX X σ (E σ))
    (ht : eval (.Call (.Attribute o mn apos) [] [] pos) X.env = (do
      let ov ← eval o X.env
      standAt apos.atName
      let (f, first) ← holding [ov] (getMethod ov mn pl)
      callWith pos f first (backTo pos (starEach [] X.env)) (backToKw pos (keywordEach [] X.env))) := by rfl) :
    PE X (.Call (.Attribute o mn apos) [] [] pos) (tMethS C mn sp dvs E ta tNil) := by
  refine ⟨fun pins s σ H Q I h => ?_⟩
  refine PySem.W.methodCall_KW (pl := pl) (thn (he.run pins s σ H _ I h) fun u s1 ⟨x, H1, I1, rx, a, dx, fs, ex, ea, l, q⟩ => ?_) ht
  subst ex
  obtain rfl : u = Value.ref a := rx
  refine getmeth_ok I1 ea c hm l ?_
  exact PySem.W.callWith_K0 (first := [.ref a]) I1.kIn hm.kp (run_fnSD (us := [.ref a]) (vs := [.ref a]) F hr hb hd (hx σ) I1 (.cons rfl .nil) q)
theorem up_meth {K : PySem.W.Frag} {σ : L2.St} {H : Hp} {Q : VK} (hdd : ∀ G, Rps K G dds dvs) (h : up K W WD (dMeth C mn sp WD dds ta t) σ H Q) : tMethS C mn (liftSp K sp) dvs (WE W) (up K W WD ta) (upA K W WD t) σ H Q := by
  obtain ⟨G, F, r, m, QD, x, t, k⟩ := h
  refine ⟨G, F, r, m, _, x, t, fun G1 H1 m1 d1 v1 e1 r1 p1 t1 => ?_⟩
  obtain ⟨fs, e2, l, t2⟩ := t1
  obtain ⟨a, dx, fv, rfl, h1, h2⟩ := ins_ok r1 p1 e2
  refine ⟨a, dx, fv, rfl, h1, h2.lookupN l, G1, F, r, m1, _, x.step e1 r1, t2, fun G2 H2 m2 ds vs e3 r3 p3 t3 => ?_⟩
  exact lift_call (x.step (e1.trans e3) r3) (.cons (p1.mono e3) (p3.append (hdd G2))) t3 (k.mono (e1.trans e3))
theorem de_meth {pl : Sem Bool} (he : DE X W WD o ta) (c : Cls X.K C) (hm : Meth X.K C mn f) (F : FnOk X.prog X.w X.K X.mg X.base (L2.CX X.prog X.w) k f fd ps (liftSp X.K sp)) (hr : Room k X.A) (hb : Binds X.K fd ps ds) (hd : Vals dvs ds) (hdd : ∀ G, Rps X.K G dds dvs) (tk : Takes X W) (ha : DA X W WD (e :: es) t)
    (hst : starEach (e :: es) X.env = (false, eval e X.env) :: starEach es X.env := by rfl) (hpl : (backTo pos (starEach es X.env)).any (·.1) = false := by rfl)
    (ht : eval (.Call (.Attribute o mn apos) (e :: es) [] pos) X.env = (do
      let ov ← eval o X.env
      standAt apos.atName
      let (f, first) ← holding [ov] (getMethod ov mn pl)
      callWith pos f first (backTo pos (starEach (e :: es) X.env)) (backToKw pos (keywordEach [] X.env))) := by rfl) :
    DE X W WD (.Call (.Attribute o mn apos) (e :: es) [] pos) (dMeth C mn sp WD dds ta t) := PE.imp (pe_methS (E := WE W) he c hm F hr hb hd (fun σ => passAt tk σ) ha hst hpl ht) fun _ _ _ h => up_meth hdd h
theorem de_meth0 {pl : Sem Bool} (he : DE X W WD o ta) (c : Cls X.K C) (hm : Meth X.K C mn f) (F : FnOk X.prog X.w X.K X.mg X.base (L2.CX X.prog X.w) k f fd ps (liftSp X.K sp)) (hr : Room k X.A) (hb : Binds X.K fd ps ds) (hd : Vals dvs ds) (hdd : ∀ G, Rps X.K G dds dvs) (tk : Takes X W)
    (ht : eval (.Call (.Attribute o mn apos) [] [] pos) X.env = (do
      let ov ← eval o X.env
      standAt apos.atName
      let (f, first) ← holding [ov] (getMethod ov mn pl)
      callWith pos f first (backTo pos (starEach [] X.env)) (backToKw pos (keywordEach [] X.env))) := by rfl) :
    DE X W WD (.Call (.Attribute o mn apos) [] [] pos) (dMeth C mn sp WD dds ta daNil) := by
  refine PE.imp (pe_methS0 (E := WE W) he c hm F hr hb hd (fun σ => passAt tk σ) ht) fun σ H Q h => ?_
  obtain ⟨G, F, r, m, QD, x, t, k⟩ := h
  refine ⟨G, F, r, m, _, x, t, fun G1 H1 m1 d1 v1 e1 r1 p1 t1 => ?_⟩
  obtain ⟨fs, e2, l, t2⟩ := t1
  obtain ⟨a, dx, fv, rfl, h1, h2⟩ := ins_ok r1 p1 e2
  refine ⟨a, dx, fv, rfl, h1, h2.lookupN l, ?_⟩
  exact lift_call (x.step e1 r1) (.cons p1 (hdd G1)) t2 (k.mono e1)
/-- e.f, a property: its getter's promise (it lets nothing out) -/
def dProp (C : Addr) (sp : DSp) (ta : DTE) : DTE := fun r m Q => ta r m fun x m1 => ∃ fs, insOf m1 x = some (C, fs) ∧ sp [x] m1 Q fun _ _ => False
theorem de_prop {fn : Str} {pa : Addr} (he : DE X W WD e ta) (c : Cls X.K C) (hp : PropOf X.K C fn pa g) (F : FnOk X.prog X.w X.K X.mg X.base (L2.CX X.prog X.w) k g fd ps (liftSp X.K sp)) (hr : Room (k + 1) X.A) (hb : Binds X.K fd ps [])
    (hab : attributeBase e fn X.env (eval e X.env) = eval e X.env := by rfl) : DE X W WD (.Attribute e fn pos) (dProp C sp ta) := by
  refine PE.imp (pe_prop (E := E0) he c hp F hr hb .nil passL hab) fun σ H Q h => ?_
  obtain ⟨G, F, r, m, QD, x, t, k⟩ := h
  refine ⟨G, F, r, m, _, x, t, fun G1 H1 m1 d1 v1 e1 r1 p1 t1 => ?_⟩
  obtain ⟨fs, e2, t2⟩ := t1
  obtain ⟨a, dx, fv, rfl, h1, h2⟩ := ins_ok r1 p1 e2
  exact ⟨a, dx, fv, rfl, h1, G1, F, m1, [d1], QD, _, r1, .cons p1 .nil, t2, k.mono e1, fun _ _ _ _ _ _ _ _ _ q => q.elim⟩
/-- C(e, ..) -/
def tMakeS (C : Addr) (sp : Sp) (dvs : List V) (E : L2.St → XK) (t : TA) : TE := fun σ H Q => t σ H fun vs H1 => ∀ x dx, H1 x = none → H1 dx = none → dx ≠ x →
  sp (.ref x :: (vs ++ dvs)) (upd (upd H1 dx (.own x)) x (.ins C dx [])) (fun v H2 => v = .non ∧ Q (.ref x) H2) (E σ)
theorem run_makeS {CX : CXT} {sp : Sp} {E : XK} {pins : List (Addr × Obj)} {σ : L2.St} {H : Hp} {s : Shared} {Q : VK} {us : List Value} {vs : List V} (M : Mk X.K C f) (F : FnOk X.prog X.w X.K X.mg X.base CX k f fd ps sp) (hr : Room (k + 1) X.A) (hb : Binds X.K fd ps ds) (hd : Vals dvs ds)
    (hx : PassesAt CX X σ E) (I : Inv X pins σ H s) (r : Vals vs us)
    (h : ∀ x dx, H x = none → H dx = none → dx ≠ x → sp (.ref x :: (vs ++ dvs)) (upd (upd H dx (.own x)) x (.ins C dx [])) (fun v H2 => v = .non ∧ Q (.ref x) H2) E) :
    wpAny (model X.prog X.w) X.A (call (.ref C) us) (EP X pins σ Q) X.xe s := by
  have hq := h (s.heap.objs.size + 1) s.heap.objs.size (I.hok.fresh (Nat.le_succ _)) (I.hok.fresh (Nat.le_refl _)) (Nat.ne_of_lt (Nat.lt_succ_self _))
  have I2 := Inv.made (C := C) I
  have r2 : Vals (V.ref (s.heap.objs.size + 1) :: (vs ++ dvs)) (Value.ref (s.heap.objs.size + 1) :: (us ++ ds)) := .cons rfl (r.append hd)
  have hl : (Value.ref (s.heap.objs.size + 1) :: us ++ ds).length = ps.length := by
    have e := r2.length
    rw [F.len _ _ _ _ hq] at e
    exact e.symm
  refine wpAny_call (make_map (f := f) I.kIn M.makes M.init (beq_iff_eq.mp M.fn) (codeAny_mono (F.run _ X.stack _ _ ⟨Value.ref (s.heap.objs.size + 1) :: us, []⟩ (Value.ref (s.heap.objs.size + 1) :: (us ++ ds)) _ _ E (hr.make C us [])
    (I2.env0.make C us []) (hb _ (Value.ref (s.heap.objs.size + 1) :: us) I2.kIn hl) r2 hq) fun r s' hq' => ?_))
  cases r with
  | error e => exact hx pins _ _ e s' I2 hq'
  | ok fl =>
    cases fl with
    | ret u =>
      obtain ⟨v, H', I3, rv, ev, q3⟩ := I2.after hq'
      subst ev
      exact ⟨rv, ⟨V.ref (s.heap.objs.size + 1), H', I3, rfl, q3⟩⟩
    | next => exact False.elim hq'
    | brk => exact False.elim hq'
    | cont => exact False.elim hq'
theorem pe_makeS {CX : CXT} {sp : Sp} {E : L2.St → XK} {t : TA} (M : Mk X.K C f) (F : FnOk X.prog X.w X.K X.mg X.base CX k f fd ps sp) (hr : Room (k + 1) X.A) (hg : Gl X x) (hm : X.mg x = some (.ref C)) (hb : Binds X.K fd ps ds) (hd : Vals dvs ds) (hx : ∀ σ, PassesAt CX X σ (E σ))
    (ha : PA X (e :: es) t) (hdb : (x == ("__debug__" : Str)) = false := by decide) (he : starEach (e :: es) X.env = (false, eval e X.env) :: starEach es X.env := by rfl) (hpl : (backTo pos (starEach es X.env)).any (·.1) = false := by rfl) :
    PE X (.Call (.Name x p) (e :: es) [] pos) (tMakeS C sp dvs E t) := by
  refine ⟨fun pins s σ H Q I h => ?_⟩
  refine wpAny_Call_Name_kw (ld_glob I hg hm ?_ hdb)
  refine PySem.W.callWith_K (h₀ := X.base) I.ok.mod.kin M.kp (thn (ha.run pos pins s σ H _ I h) fun us s1 ⟨vs, H1, I1, r, q⟩ => ⟨I1.kIn, ?_⟩) he hpl
  exact run_makeS M F hr hb hd (hx σ) I1 r q
/-- a new instance stands as a mutable one for __init__ -/
def dMake (C : Addr) (sp : DSp) (WD : DWX) (dds : List D) (t : DTA) : DTE := fun r m Q => t r m fun ds m1 => ∀ x, m1 x = none → sp (.ref x :: (ds ++ dds)) (mset m1 x (.ins C [])) (fun _ m2 => ∃ fs, m2 x = some (.ins C fs) ∧ Q (.ins C fs) (mdel m2 x)) fun x m2 => WD x r m2
theorem de_make (M : Mk X.K C f) (F : FnOk X.prog X.w X.K X.mg X.base (L2.CX X.prog X.w) k f fd ps (liftSp X.K sp)) (hr : Room (k + 1) X.A) (hg : Gl X x) (hm : X.mg x = some (.ref C)) (hb : Binds X.K fd ps ds) (hd : Vals dvs ds) (hdd : ∀ G, Rps X.K G dds dvs) (tk : Takes X W)
    (hn : ∀ vs H Q E, liftSp X.K sp vs H Q E → liftSp X.K sp vs H (fun v H' => v = .non ∧ Q v H') E)
    (ha : DA X W WD (e :: es) t) (hdb : (x == ("__debug__" : Str)) = false := by decide) (he : starEach (e :: es) X.env = (false, eval e X.env) :: starEach es X.env := by rfl) (hpl : (backTo pos (starEach es X.env)).any (·.1) = false := by rfl) :
    DE X W WD (.Call (.Name x p) (e :: es) [] pos) (dMake C sp WD dds t) := by
  refine PE.imp (pe_makeS (E := WE W) M F hr hg hm hb hd (fun σ => passAt tk σ) ha hdb he hpl) fun σ H Q h => ?_
  obtain ⟨G, F, r, m, QD, x, t, k⟩ := h
  refine ⟨G, F, r, m, _, x, t, fun G1 H1 m1 ds vs e1 r1 p1 t1 => ?_⟩
  intro y dx hy hdx ne
  have r2 : Rep X.K G1 (upd (upd H1 dx (.own y)) y (.ins C dx [])) F (mset m1 y (.ins C [])) := (r1.junk (o := .own y) hdx).newm (u := .ins C []) (by rw [upd_ne (Ne.symm ne)]; exact hy) ⟨rfl, .nil⟩
  refine hn _ _ (fun _ H2 => Q (.ref y) H2) _ ?_
  refine lift_call (QD := fun _ m2 => ∃ fs, m2 y = some (.ins C fs) ∧ QD (.ins C fs) (mdel m2 y)) (x.step e1 r2) (.cons (.ref y) (p1.append (hdd G1))) (t1 y (r1.mfree hy)) fun G3 H3 m3 d v e3 r3 p3 t3 => ?_
  obtain ⟨fs, hm3, t4⟩ := t3
  obtain ⟨G4, e4, r4, p4⟩ := r3.freezeI hm3
  exact k G4 H3 _ _ _ ((e1.trans e3).trans e4) r4 p4 t4
/-- a promise that gives None alone -/
theorem none_of {K : PySem.W.Frag} {sp : DSp} (h : ∀ ds m Q E, sp ds m Q E → sp ds m (fun d m' => d = .non ∧ Q d m') E) (vs : List V) (H : Hp) (Q : VK) (E : XK) (q : liftSp K sp vs H Q E) : liftSp K sp vs H (fun v H' => v = .non ∧ Q v H') E := by
  obtain ⟨G, F, m, ds, QD, ED, rep, rs, hs, kv, kx⟩ := q
  refine ⟨G, F, m, ds, _, ED, rep, rs, h ds m QD ED hs, fun G' H' m' d v e r p q => ?_, kx⟩
  obtain ⟨rfl, q⟩ := q
  cases p
  exact ⟨rfl, kv G' H' m' _ _ e r .non q⟩
/-- f(e, ..), f an instance of a class with __call__ -/
def dCallO (C : Addr) (sp : DSp) (WD : DWX) (tf : DTE) (t : DTA) : DTE := fun r m Q => tf r m fun x m1 => (∃ fs, insOf m1 x = some (C, fs)) ∧ t r m1 fun ds m2 => ∃ fs, insOf m2 x = some (C, fs) ∧ sp (x :: ds) m2 Q fun x m2 => WD x r m2
theorem run_fnC {CX : CXT} {sp : Sp} {E : XK} {pins : List (Addr × Obj)} {σ : L2.St} {H : Hp} {s : Shared} {Q : VK} {us : List Value} {vs : List V} (F : FnOk X.prog X.w X.K X.mg X.base CX k f fd ps sp) (hr : Room k X.A) (hb : Binds X.K fd ps []) (hx : PassesAt CX X σ E) (I : Inv X pins σ H s) (r : Vals vs us) (h : sp vs H Q E) :
    codeAny (model X.prog X.w) X.A (.call (.ref f) ⟨us, []⟩) (fun r s' => match r with | .ok (.ret v) => EP X pins σ Q v s' | .ok _ => False | .error e => X.xe e s') s := by
  have hl : us.length = ps.length := by rw [← r.length]; exact F.len _ _ _ _ h
  have b := hb s us I.kIn (by rw [List.append_nil]; exact hl)
  rw [List.append_nil] at b
  refine codeAny_mono (F.run X.A X.stack s H ⟨us, []⟩ us vs Q E hr I.env0 b r h) fun r s' hq => ?_
  cases r with
  | error e => exact hx pins H s e s' I hq
  | ok fl =>
    cases fl with
    | ret u => exact I.after hq
    | next => exact False.elim hq
    | brk => exact False.elim hq
    | cont => exact False.elim hq
def tCallOS (C : Addr) (sp : Sp) (E : L2.St → XK) (tf : TE) (t : TA) : TE := fun σ H Q => tf σ H fun y H1 => ∃ a, y = V.ref a ∧ t σ H1 fun vs H2 => (∃ dx fs, H2 a = some (.ins C dx fs)) ∧ sp (V.ref a :: vs) H2 Q (E σ)
theorem pe_callOS {CX : CXT} {sp : Sp} {E : L2.St → XK} {fe : Expr} {tf : TE} {t : TA} (hf : PE X fe tf) (c : StX.CallO X.K C g) (F : FnOk X.prog X.w X.K X.mg X.base CX k g fd ps sp) (hr : Room k X.A) (hb : Binds X.K fd ps []) (hx : ∀ σ, PassesAt CX X σ (E σ)) (ha : PA X (e :: es) t)
    (ht : eval (.Call fe (e :: es) [] pos) X.env = (do callWith pos (← eval fe X.env) [] (backTo pos (starEach (e :: es) X.env)) (backToKw pos (keywordEach [] X.env))) := by rfl)
    (he : starEach (e :: es) X.env = (false, eval e X.env) :: starEach es X.env := by rfl) (hpl : (backTo pos (starEach es X.env)).any (·.1) = false := by rfl) : PE X (.Call fe (e :: es) [] pos) (tCallOS C sp E tf t) := by
  refine ⟨fun pins s σ H Q I h => ?_⟩
  refine Call_ (thn (hf.run pins s σ H _ I h) fun u s1 ⟨y, H1, I1, ry, a, ey, q⟩ => ?_) ht
  subst ey
  obtain rfl : u = Value.ref a := ry
  refine StX.callO_with (thn (ha.run pos pins s1 σ H1 _ I1 q) fun us s2 ⟨vs, H2, I2, r, hi, q2⟩ => ?_) he hpl
  obtain ⟨dx, fs, hi⟩ := hi
  obtain ⟨mA, O, _⟩ := ins_get I2.hok hi
  obtain ⟨od, J, _⟩ := O.look
  exact ⟨⟨C, _, _, J, rfl⟩, wpAny_call (PySem.W.kco_code I2.kIn J rfl c.at_ c.fn c.fi (run_fnC (us := .ref a :: us) (vs := .ref a :: vs) F hr hb (hx σ) I2 (.cons rfl r) q2))⟩
theorem de_callO {fe : Expr} {tf : DTE} (hf : DE X W WD fe tf) (c : StX.CallO X.K C g) (F : FnOk X.prog X.w X.K X.mg X.base (L2.CX X.prog X.w) k g fd ps (liftSp X.K sp)) (hr : Room k X.A) (hb : Binds X.K fd ps []) (tk : Takes X W) (ha : DA X W WD (e :: es) t)
    (ht : eval (.Call fe (e :: es) [] pos) X.env = (do callWith pos (← eval fe X.env) [] (backTo pos (starEach (e :: es) X.env)) (backToKw pos (keywordEach [] X.env))) := by rfl)
    (he : starEach (e :: es) X.env = (false, eval e X.env) :: starEach es X.env := by rfl) (hpl : (backTo pos (starEach es X.env)).any (·.1) = false := by rfl) : DE X W WD (.Call fe (e :: es) [] pos) (dCallO C sp WD tf t) := by
  refine PE.imp (pe_callOS (E := WE W) hf c F hr hb (fun σ => passAt tk σ) ha ht he hpl) fun σ H Q h => ?_
  obtain ⟨G, F, r, m, QD, x, t, k⟩ := h
  refine ⟨G, F, r, m, _, x, t, fun G1 H1 m1 d1 v1 e1 r1 p1 t1 => ?_⟩
  obtain ⟨⟨fs0, ei0⟩, t1⟩ := t1
  obtain ⟨a, dx0, fv0, rfl, _, _⟩ := ins_ok r1 p1 ei0
  refine ⟨a, rfl, G1, F, r, m1, _, x.step e1 r1, t1, fun G2 H2 m2 ds vs e2 r2 p2 t2 => ?_⟩
  obtain ⟨fs, ei, t3⟩ := t2
  obtain ⟨a2, dx, fv, ea, h1, h2⟩ := ins_ok r2 (p1.mono e2) ei
  cases ea
  exact ⟨⟨dx, fv, h1⟩, lift_call (x.step (e1.trans e2) r2) (.cons (p1.mono e2) p2) t3 (k.mono (e1.trans e2))⟩
end
end DL

set_option Elab.async false
set_option linter.all false
set_option maxRecDepth 100000
set_option maxHeartbeats 4000000
namespace DL
open PySem PySem.Spec PyProof.Rows L2

/-! ### methods of built-in types -/
abbrev DRM := D → List D → M → (D → M → Prop) → Prop
def MtD (K : PySem.W.Frag) (T : String) (r : V → List V → Hp → VK → Prop) (ty : D → M → Prop) (rd : DRM) : Prop :=
  (∀ (G H F : Hp) (m : M) (x : D) (vx : V), Rep K G H F m → Rp K G x vx → ty x m → tyV K T vx H) ∧
  ∀ (G H F : Hp) (m : M) (x : D) (vx : V) (ds : List D) (vs : List V) (QD : D → M → Prop) (Q : VK), Rep K G H F m → Rp K G x vx → Rps K G ds vs → rd x ds m QD → Kv K G F QD Q → r vx vs H Q
def dBM (ty : D → M → Prop) (rd : DRM) (to : DTE) (t : DTA) : DTE := fun r m Q => to r m fun x m1 => ty x m1 ∧ t r m1 fun ds m2 => rd x ds m2 Q
section
variable {K : PySem.W.Frag} {X : Cx} {W : WX} {WD : DWX} {o e : Expr} {es : List Expr} {to : DTE} {t : DTA} {name : Str} {apos cpos : Pos} {T id : String} {r : V → List V → Hp → VK → Prop} {ty : D → M → Prop} {rd : DRM}
theorem de_bm (pa : PlainAttrs T) (slot : Slot T name id) (hty : typeOf (.builtin id) = pure (.type "method_descriptor")) (hm : MtR X id r) (hd : MtD X.K T r ty rd) (ho : DE X W WD o to) (ha : DA X W WD (e :: es) t)
    (hbase : attributeBase o name X.env (eval o X.env) = eval o X.env := by rfl)
    (hfew : ((backTo cpos (starEach (e :: es) X.env)).all (fun x => !x.1) && (backToKw cpos (keywordEach [] X.env)).all (fun x => x.1.isSome)
      && decide ((e :: es).length + ([] : List Keyword).length + (if ([] : List Keyword).isEmpty then 0 else 1) < 30)) = true := by rfl)
    (hline : (apos.endLine == cpos.line) = true := by rfl) (hs : starEach (e :: es) X.env = (false, eval e X.env) :: starEach es X.env := by rfl) (hplain : (backTo cpos (starEach es X.env)).any (·.1) = false := by rfl) :
    DE X W WD (.Call (.Attribute o name apos) (e :: es) [] cpos) (dBM ty rd to t) := by
  refine PE.imp (pe_bm pa slot hty hm ho ha hbase hfew hline hs hplain) fun σ H Q h => ?_
  obtain ⟨G, F, r, m, QD, x, t, k⟩ := h
  refine ⟨G, F, r, m, _, x, t, fun G1 H1 m1 d1 v1 e1 r1 p1 t1 => ⟨hd.1 G1 H1 F m1 d1 v1 r1 p1 t1.1, ?_⟩⟩
  refine ⟨G1, F, r, m1, _, x.step e1 r1, t1.2, fun G2 H2 m2 ds vs e2 r2 p2 t2 => ?_⟩
  exact hd.2 G2 H2 F m2 d1 v1 ds vs QD Q r2 (p1.mono e2) p2 t2 (k.mono (e1.trans e2))
theorem de_bm0 (pa : PlainAttrs T) (slot : Slot T name id) (hty : typeOf (.builtin id) = pure (.type "method_descriptor")) (hm : MtR X id r) (hd : MtD X.K T r ty rd) (ho : DE X W WD o to)
    (hbase : attributeBase o name X.env (eval o X.env) = eval o X.env := by rfl) (hline : (apos.endLine == cpos.line) = true := by rfl) : DE X W WD (.Call (.Attribute o name apos) [] [] cpos) (dBM ty rd to daNil) := by
  refine PE.imp (pe_bm0 pa slot hty hm ho hbase hline) fun σ H Q h => ?_
  obtain ⟨G, F, r, m, QD, x, t, k⟩ := h
  refine ⟨G, F, r, m, _, x, t, fun G1 H1 m1 d1 v1 e1 r1 p1 t1 => ⟨hd.1 G1 H1 F m1 d1 v1 r1 p1 t1.1, ?_⟩⟩
  exact hd.2 G1 H1 F m1 d1 v1 [] [] QD Q r1 p1 .nil t1.2 (k.mono e1)
def isL (d : D) (m : M) : Prop := ∃ xs, lsOf m d = some xs
def isS (d : D) (_ : M) : Prop := ∃ z, d = .str z
theorem ty_list {G H F : Hp} {m : M} {x : D} {vx : V} (r : Rep K G H F m) (p : Rp K G x vx) (h : isL x m) : tyV K "list" vx H := by
  obtain ⟨xs, e⟩ := h
  obtain ⟨a, vs, rfl, hs, _⟩ := ls_ok r p e
  exact .inl ⟨rfl, vs, hs⟩
theorem ty_str {G H F : Hp} {m : M} {x : D} {vx : V} (r : Rep K G H F m) (p : Rp K G x vx) (h : isS x m) : tyV K "str" vx H := by
  obtain ⟨z, rfl⟩ := h
  cases p
  exact rfl
/-- what stands at a mutable list -/
theorem mo_lst {G H F : Hp} {m : M} {a : Addr} {xs : List D} (r : Rep K G H F m) (h : m a = some (.lst xs)) : ∃ vs, H a = some (.lst vs) ∧ Rps K G xs vs := by
  obtain ⟨_, _, u, h3, h4⟩ := r.mo a _ h
  obtain ⟨vs, rfl, h4⟩ := h4.ofLst
  exact ⟨vs, h3, h4⟩
theorem wr_lst {G H F : Hp} {m : M} {a : Addr} {xs ys : List D} {us : List V} (r : Rep K G H F m) (h : m a = some (.lst xs)) (p : Rps K G ys us) : Rep K G (upd H a (.lst us)) F (mset m a (.lst ys)) := r.write h (show RpM K G (.lst ys) (.lst us) from p)
def dAppend : DRM := fun x ds m Q => ∃ a xs y, x = .ref a ∧ ds = [y] ∧ m a = some (.lst xs) ∧ xs.length < sizeLine ∧ Q .non (mset m a (.lst (xs ++ [y])))
theorem md_append : MtD K "list" rAppend isL dAppend := by
  refine ⟨fun G H F m x vx r p h => ty_list r p h, fun G H F m x vx ds vs QD Q r px ps t k => ?_⟩
  obtain ⟨a, xs, y, rfl, rfl, hm, hz, t⟩ := t
  cases px
  obtain ⟨v, rfl, p⟩ := rps1 ps
  obtain ⟨vs, h3, h4⟩ := mo_lst r hm
  exact ⟨a, vs, v, rfl, rfl, h3, by rw [← h4.length]; exact hz, k.here (wr_lst r hm (h4.append (.cons p .nil))) .non t⟩
def dExtend : DRM := fun x ds m Q => ∃ a xs d ys, x = .ref a ∧ ds = [d] ∧ m a = some (.lst xs) ∧ d = .lst ys ∧ xs.length + ys.length ≤ sizeLine ∧ Q .non (mset m a (.lst (xs ++ ys)))
theorem md_extend : MtD K "list" rExtend isL dExtend := by
  refine ⟨fun G H F m x vx r p h => ty_list r p h, fun G H F m x vx ds vs QD Q r px ps t k => ?_⟩
  obtain ⟨a, xs, d, ys, rfl, rfl, hm, rfl, hz, t⟩ := t
  cases px
  obtain ⟨v, rfl, p⟩ := rps1 ps
  cases p with | lst h1 r1 =>
  obtain ⟨vs, h3, h4⟩ := mo_lst r hm
  exact ⟨a, _, vs, _, rfl, rfl, h3, r.ext _ _ h1, by rw [← h4.length, ← r1.length]; exact hz, k.here (wr_lst r hm (h4.append r1)) .non t⟩
def dClear : DRM := fun x ds m Q => ∃ a xs, x = .ref a ∧ ds = [] ∧ m a = some (.lst xs) ∧ Q .non (mset m a (.lst []))
theorem md_clear : MtD K "list" rClear isL dClear := by
  refine ⟨fun G H F m x vx r p h => ty_list r p h, fun G H F m x vx ds vs QD Q r px ps t k => ?_⟩
  obtain ⟨a, xs, rfl, rfl, hm, t⟩ := t
  cases px; cases ps
  obtain ⟨vs, h3, h4⟩ := mo_lst r hm
  exact ⟨a, vs, rfl, rfl, h3, k.here (wr_lst r hm .nil) .non t⟩
def dReverse : DRM := fun x ds m Q => ∃ a xs, x = .ref a ∧ ds = [] ∧ m a = some (.lst xs) ∧ Q .non (mset m a (.lst xs.reverse))
theorem md_reverse : MtD K "list" rReverse isL dReverse := by
  refine ⟨fun G H F m x vx r p h => ty_list r p h, fun G H F m x vx ds vs QD Q r px ps t k => ?_⟩
  obtain ⟨a, xs, rfl, rfl, hm, t⟩ := t
  cases px; cases ps
  obtain ⟨vs, h3, h4⟩ := mo_lst r hm
  exact ⟨a, vs, rfl, rfl, h3, k.here (wr_lst r hm h4.reverse) .non t⟩
def dPop : DRM := fun x ds m Q => ∃ a xs y, x = .ref a ∧ ds = [] ∧ m a = some (.lst xs) ∧ xs[xs.length - 1]? = some y ∧ Q y (mset m a (.lst xs.dropLast))
theorem rps_dropLast {G : Hp} {ds : List D} {vs : List V} (h : Rps K G ds vs) : Rps K G ds.dropLast vs.dropLast := by
  rw [List.dropLast_eq_take, List.dropLast_eq_take, h.length]
  exact h.take _
theorem md_pop : MtD K "list" rPop isL dPop := by
  refine ⟨fun G H F m x vx r p h => ty_list r p h, fun G H F m x vx ds vs QD Q r px ps t k => ?_⟩
  obtain ⟨a, xs, y, rfl, rfl, hm, hy, t⟩ := t
  cases px; cases ps
  obtain ⟨vs, h3, h4⟩ := mo_lst r hm
  obtain ⟨v, h5, h6⟩ := h4.get hy
  exact ⟨a, vs, v, rfl, rfl, h3, by rw [← h4.length]; exact h5, k.here (wr_lst r hm (rps_dropLast h4)) h6 t⟩
def dPopAt : DRM := fun x ds m Q => ∃ a xs i j y, x = .ref a ∧ ds = [.int i] ∧ m a = some (.lst xs) ∧ (-(2 ^ 63) ≤ i ∧ i < 2 ^ 63) ∧ seqIndex? i xs.length = some j ∧ xs[j]? = some y ∧ Q y (mset m a (.lst (xs.eraseIdx j)))
theorem md_popAt : MtD K "list" rPopAt isL dPopAt := by
  refine ⟨fun G H F m x vx r p h => ty_list r p h, fun G H F m x vx ds vs QD Q r px ps t k => ?_⟩
  obtain ⟨a, xs, i, j, y, rfl, rfl, hm, ⟨h1, h2⟩, hj, hy, t⟩ := t
  cases px
  obtain ⟨v, rfl, p⟩ := rps1 ps
  cases p
  obtain ⟨vs, h3, h4⟩ := mo_lst r hm
  obtain ⟨v, h5, h6⟩ := h4.get hy
  exact ⟨a, vs, i, j, v, rfl, rfl, h3, h1, h2, by rw [← h4.length]; exact hj, h5, k.here (wr_lst r hm (h4.eraseIdx j)) h6 t⟩
end

/-! ### own operators -/
section
variable {X : Cx} {W : WX} {WD : DWX} {k : Nat} {f C : Addr} {fd : FuncData} {ps : List Str} {sp : DSp} {a b : Expr} {ta tb : DTE} {pos : Pos}
/-- x == y by C's own __eq__, x an instance of C, y of C too -/
def rEqO (C : Addr) (sp : Sp) : R2 := fun x y H Q => ∃ a c dx dy fs gs, x = .ref a ∧ y = .ref c ∧ H a = some (.ins C dx fs) ∧ H c = some (.ins C dy gs) ∧ sp [x, y] H (fun v H' => (∃ b, v = .bl b) ∧ Q v H') E0
theorem op_eqO {sp : Sp} (F : FnOk X.prog X.w X.K X.mg X.base (L2.CX X.prog X.w) k f fd ps sp) (hs : PySem.W.findIn X.K (.ref C) "__eq__" = some (some (.ref f))) (hf : PySem.W.isFn X.K (.ref f) = true) (hb : Binds X.K fd ps []) (hr : Room k X.A) : OpR X (compareOp .Eq) (rEqO C sp) := by
  intro pins s σ H x y v u Q I rx ry d
  obtain ⟨a, c, dx, dy, fs, gs, rfl, rfl, ha, hc, hsp⟩ := d
  cases rx
  cases ry
  obtain ⟨mA, J, _⟩ := ins_get I.hok ha
  obtain ⟨mB, J', _⟩ := ins_get I.hok hc
  obtain ⟨od, J, _⟩ := J.look
  obtain ⟨od', J', _⟩ := J'.look
  obtain ⟨m, hF⟩ := I.fr
  show wpAny (model X.prog X.w) X.A (richCompare .Eq (.ref a) (.ref c)) (EP X pins σ Q) X.xe s
  refine PySem.W.cmp_K (op := .Eq) (tb := .ref C) hr.units0 hF I.ok.mod.kin J J'.type (by simp [PySem.W.notFirst]) hs hf ?_
  have hl := F.len _ _ _ _ hsp
  have r2 : Vals [V.ref a, V.ref c] [Value.ref a, Value.ref c] := .cons rfl (.cons rfl .nil)
  refine wpAny_call (codeAny_mono (F.run X.A X.stack s H ⟨[.ref a, .ref c], []⟩ [.ref a, .ref c] [.ref a, .ref c] _ E0 hr I.env0 (by
    have := hb s [.ref a, .ref c] I.kIn (by simpa using hl)
    simpa using this) r2 hsp) fun r s' hq => ?_)
  cases r with
  | error e => exact (passL (X := X) pins σ H s e s' I hq)
  | ok fl =>
    cases fl with
    | ret w =>
      obtain ⟨z, H', I', rz, ⟨b, rfl⟩, q⟩ := I.after hq
      cases rz
      exact ⟨.bl b, H', I', rfl, q⟩
    | next => exact False.elim hq
    | brk => exact False.elim hq
    | cont => exact False.elim hq
def dEqO (C : Addr) (sp : DSp) : DR2 := fun x y m Q => ∃ fs gs, insOf m x = some (C, fs) ∧ insOf m y = some (C, gs) ∧ sp [x, y] m (fun d m' => (∃ b, d = .bl b) ∧ Q d m') fun _ _ => False
theorem od_eqO {K : PySem.W.Frag} : OpD K (rEqO C (liftSp K sp)) (dEqO C sp) := by
  intro G H F m x y vx vy QD Q r px py t k
  obtain ⟨fs, gs, e1, e2, t⟩ := t
  obtain ⟨a, dx, fv, rfl, h1, _⟩ := ins_ok r px e1
  obtain ⟨c, dy, gv, rfl, h2, _⟩ := ins_ok r py e2
  refine ⟨a, c, dx, dy, fv, gv, rfl, rfl, h1, h2, G, F, m, [x, y], _, _, r, .cons px (.cons py .nil), t, fun G' H' m' d v e r' p q => ?_, fun _ _ _ _ _ _ _ _ _ q => q.elim⟩
  obtain ⟨⟨b, rfl⟩, q⟩ := q
  cases p
  exact ⟨⟨b, rfl⟩, k G' H' m' _ _ e r' (.bl b) q⟩
end
/-- code that is never come to -/
def dNever : DTS := fun _ _ _ => False
theorem ds_never {X : Cx} {W : WX} {WD : DWX} {st : Stmt} : DS X W WD st dNever := PS.imp ps_never fun _ _ _ h => by
  obtain ⟨_, _, _, _, _, _, t, _⟩ := h
  exact t
end DL

set_option Elab.async false
set_option linter.all false
set_option maxRecDepth 100000
set_option maxHeartbeats 4000000
namespace DL
open PySem PySem.Spec PyProof.Rows L2
open He (ga ma eqO eqO_ok ba)

/-! ### the head's facts: Bools of the written part, defs by their addresses -/
abbrev Fr0 := PySem.W.Frag
structure DefA where
  ad : Fr0 → Addr
  name : Str
  qual : Str
  params : Arguments
  body : List Stmt
  scope : Scope
  dfl : List He.Dv := []
  kwd : List (Str × He.Dv) := []
def fnAt (K : Fr0) (a : Addr) : He.FnW := match K.lookup a with
  | some ⟨_, _, .func u, _⟩ => some (u.name, u.qualname, u.params, u.body, u.scope, u.globals, u.closure, u.builtins)
  | _ => none
def DefA.told (d : DefA) : He.FnW := some (d.name, d.qual, d.params, .stmts d.body, d.scope, mainGlobals, [], builtinsNs)
def DefA.vs (K : Fr0) (d : DefA) : List V := d.dfl.map (He.Dv.v K)
def DefA.ks (K : Fr0) (d : DefA) : List (Str × V) := d.kwd.map fun z => (z.1, z.2.v K)
def DefA.good (K : Fr0) (d : DefA) : Bool := PySem.W.keepIn K (.ref (d.ad K)) && (match K.lookup (d.ad K) with
  | some ⟨_, _, .func u, _⟩ => PySem.W.codeIn K u.code d.qual && (He.dflB K u.defaults (d.vs K) && He.kwdB K u.kwdefaults (d.ks K))
  | _ => false)
theorem DefA.fun_ {K : Fr0} {d : DefA} (e : fnAt K (d.ad K) = d.told) (c : d.good K = true) : ∃ fd, FunD K d.name d.qual d.params d.body d.scope (d.vs K) (d.ks K) (d.ad K) fd := by
  obtain ⟨kp, c2⟩ := ba c
  unfold fnAt at e
  cases look : K.lookup (d.ad K) with
  | none => rw [look] at c2; cases c2
  | some ob =>
    obtain ⟨oc, od, dt, osl⟩ := ob
    rw [look] at c2 e
    cases dt with
    | func u =>
      obtain ⟨n1, n2, n3, n4, n5, n6, n7, n8, n9, n10, n11, n12, n13, n14, n15⟩ := u
      have e2 : (some (n1, n2, n3, n4, n5, n6, n7, n15) : He.FnW) = some (d.name, d.qual, d.params, .stmts d.body, d.scope, mainGlobals, [], builtinsNs) := e
      simp only [Option.some.injEq, Prod.mk.injEq] at e2
      obtain ⟨rfl, rfl, rfl, rfl, rfl, rfl, rfl, rfl⟩ := e2
      obtain ⟨k1, k2⟩ := ba (show (PySem.W.codeIn K n13 d.qual && (He.dflB K n8 (d.vs K) && He.kwdB K n9 (d.ks K))) = true from c2)
      obtain ⟨k3, k4⟩ := ba k2
      exact ⟨_, ⟨oc, od, n8, n9, n10, n11, n12, n13, n14, osl, rfl, look, k1, He.dflB_ok k3, He.kwdB_ok k4⟩, kp⟩
    | _ => cases c2
abbrev AlA : Type := Bool × List He.FnW
def obsA (fa : List (Fr0 → Bool)) (fn : List DefA) (K : Fr0) : AlA := (fa.all (fun f => f K) && fn.all (fun d => d.good K), fn.map fun d => fnAt K (d.ad K))
def valA (fn : List DefA) : AlA := (true, fn.map DefA.told)
def Says (fa : List (Fr0 → Bool)) (fn : List DefA) (K : Fr0) : Prop := obsA fa fn K = valA fn
def obsAG (n : Nat) (fa : List (Fr0 → Bool)) (fn : List DefA) (g : Addr → Option Obj) : AlA := obsA fa fn (He.frG g (He.asD g n ++ [cStatics]))
def hookA (n : Nat) (fa : List (Fr0 → Bool)) (fn : List DefA) : PySem.W.Hook where
  α := AlA
  obs := fun s => obsAG n fa fn s.heap.get?
  val := fun _ => valA fn
  says := fun _ h => ∃ K : Fr0, K.In h ∧ Says fa fn K
  of := fun _ _ e => ⟨_, He.frG_in, e⟩
  keeps := fun _ _ _ ⟨K, hK, c⟩ k => ⟨K, PySem.W.Frag.In.keeps hK k, c⟩
theorem obsAG_eq {n : Nat} {fa : List (Fr0 → Bool)} {fn : List DefA} {g : Addr → Option Obj} {s : Shared} (h : ∀ a, g a = s.heap.get? a) : obsAG n fa fn g = (hookA n fa fn).obs s := by
  have e : g = s.heap.get? := funext h
  subst e
  rfl
section
variable {fa : List (Fr0 → Bool)} {fn : List DefA} {K : Fr0}
theorem Says.fact (c : Says fa fn K) (i : Nat) {f : Fr0 → Bool} (h : fa[i]? = some f := by rfl) : f K = true := by
  obtain ⟨c1, _⟩ := ba (show (fa.all (fun f => f K) && fn.all (fun d => d.good K)) = true from congrArg Prod.fst c)
  exact List.all_eq_true.mp c1 f (List.mem_of_getElem? h)
theorem Says.def_ (c : Says fa fn K) (i : Nat) {d : DefA} (h : fn[i]? = some d := by rfl) : ∃ fd, FunD K d.name d.qual d.params d.body d.scope (d.vs K) (d.ks K) (d.ad K) fd := by
  obtain ⟨_, c2⟩ := ba (show (fa.all (fun f => f K) && fn.all (fun d => d.good K)) = true from congrArg Prod.fst c)
  have e : fn.map (fun d => fnAt K (d.ad K)) = fn.map DefA.told := congrArg Prod.snd c
  have e2 : (fn.map fun d => fnAt K (d.ad K))[i]? = (fn.map DefA.told)[i]? := by rw [e]
  rw [List.getElem?_map, List.getElem?_map, h] at e2
  exact DefA.fun_ (Option.some.inj e2) (List.all_eq_true.mp c2 d (List.mem_of_getElem? h))
end
/-! facts of classes -/
def pad (K : Fr0) (C f : Str) : Addr := ma K (ga K C) f
def wad (K : Fr0) (T : String) (C f : Str) : Addr := match PySem.W.recIn K (pad K C f) T with
  | some (.ref g :: _) => g
  | _ => 0
def propB (C f : Str) (K : Fr0) : Bool := eqO (PySem.W.findIn K (.ref (ga K C)) f) (some (some (.ref (pad K C f)))) && (eqO (PySem.W.specialIn K (.ref (pad K C f)) "__get__") (some (some (.builtin "property.__get__"))) &&
  (decide (PySem.W.takesIn K (.ref (pad K C f)) = some true) && (match PySem.W.recIn K (pad K C f) "property" with
  | some (.ref _ :: _) => true
  | _ => false)))
theorem prop_of {K : Fr0} {C f : Str} (h : propB C f K = true) : PropOf K (ga K C) f (pad K C f) (wad K "property" C f) := by
  obtain ⟨h1, h⟩ := ba h
  obtain ⟨h2, h⟩ := ba h
  obtain ⟨h3, h4⟩ := ba h
  refine ⟨eqO_ok h1, eqO_ok h2, of_decide_eq_true h3, ?_⟩
  unfold wad
  split at h4
  · rename_i g rest e
    rw [e]
    exact ⟨rest, rfl⟩
  · cases h4
def callB (C : Str) (K : Fr0) : Bool := eqO (PySem.W.findIn K (.ref (ga K C)) "__call__") (some (some (.ref (pad K C "__call__")))) && (PySem.W.isFn K (.ref (pad K C "__call__")) && PySem.W.fnIn K (pad K C "__call__"))
theorem callo_of {K : Fr0} {C : Str} (h : callB C K = true) : StX.CallO K (ga K C) (ma K (ga K C) "__call__") := by
  obtain ⟨h1, h⟩ := ba h
  obtain ⟨h2, h3⟩ := ba h
  exact ⟨eqO_ok h1, h2, h3⟩
/-- the class's own m is the def that stands there -/
def ownB (C m : Str) (K : Fr0) : Bool := eqO (PySem.W.findIn K (.ref (ga K C)) m) (some (some (.ref (pad K C m)))) && PySem.W.isFn K (.ref (pad K C m))
theorem own_of {K : Fr0} {C m : Str} (h : ownB C m K = true) : PySem.W.findIn K (.ref (ga K C)) m = some (some (.ref (ma K (ga K C) m))) ∧ PySem.W.isFn K (.ref (ma K (ga K C) m)) = true := ⟨eqO_ok (ba h).1, (ba h).2⟩
def clsiB (C : Str) (K : Fr0) : Bool := (He.Fa.cls C).ok K && (eqO (PySem.W.findIn K (.ref (ga K C)) "__class__") (some (some (.builtin "object.__class__"))) && (eqO (PySem.W.specialIn K (.builtin "object.__class__") "__get__") (some (some (.builtin "getset_descriptor.__get__"))) &&
  (decide (PySem.W.takesIn K (.builtin "object.__class__") = some true) && decide (PySem.W.mroIn K (ga K C) (.type "object") = some true))))
theorem clsi_of {K : Fr0} {C : Str} (h : clsiB C K = true) : ClsI K (ga K C) := by
  obtain ⟨h1, h⟩ := ba h
  obtain ⟨h2, h⟩ := ba h
  obtain ⟨h3, h⟩ := ba h
  obtain ⟨h4, h5⟩ := ba h
  exact ⟨He.cls_ok h1, eqO_ok h2, eqO_ok h3, of_decide_eq_true h4, of_decide_eq_true h5⟩
def kitC (C E : Str) (b : Bool) (K : Fr0) : Bool := decide (PySem.W.kitOne K (.ref (ga K C)) (.ref (ga K E)) = some b)
def kitTC (S : String) (C : Str) (b : Bool) (K : Fr0) : Bool := decide (PySem.W.kitOne K (.type S) (.ref (ga K C)) = some b)
def kitCT (C : Str) (S : String) (b : Bool) (K : Fr0) : Bool := decide (PySem.W.kitOne K (.ref (ga K C)) (.type S) = some b)
/-- a def that keeps its deep promise: x its global name, if it has one -/
structure Good (P : Program) (w : World) (K : Fr0) (mg : Str → Option Value) (base : Heap) (k : Nat) (x : Option Str) (f : Addr) (ps : List Str) (sp : DSp) : Prop where
  ex : ∃ fd, FnOk P w K mg base (L2.CX P w) k f fd ps (liftSp K sp) ∧ Binds K fd ps [] ∧ PySem.W.keepIn K (.ref f) = true
  gl : match x with
    | some x => mg x = some (.ref f)
    | none => True
/-! ### the law's own def: nothing leaves it -/
section
variable {P : Program} {w : World} {K : Fr0} {mg : Str → Option Value} {base : Heap} {x qual : Str} {params : Arguments} {body : List Stmt} {scope : Scope} {dvs : List V} {kws : List (Str × V)} {f : Addr} {fd : FuncData}
abbrev CXn (P : Program) (w : World) (K : Fr0) (mg : Str → Option Value) (base : Heap) (N : List Str) (qual : Str) (scope : Scope) (f : Addr) (cdv : Value) (A : Around) (outer : List Env) (s : Shared) (H : Hp) (E : XK) : Cx := (cxOf CX0 P w K mg base N qual scope f cdv A outer s H E).nox
theorem fn_d0 {N ps : List Str} {k : Nat} {sp : DSp} (F : FunD K x qual params body scope dvs kws f fd) (S : FnScope N ps scope) (len : ∀ ds m Q E, sp ds m Q E → ds.length = ps.length) (t : DWX → DTS)
    (hb : ∀ (cdv : Value) (A : Around) (outer : List Env) (s : Shared) (H : Hp) (E : XK), Room k (A.deeper (envOfC qual scope s.heap.objs.size f cdv)) → Takes (CXn P w K mg base N qual scope f cdv A outer s H E) W0 →
      PassesOwn (model P w) (CXn P w K mg base N qual scope f cdv A outer s H E).A (CXn P w K mg base N qual scope f cdv A outer s H E).env (CXn P w K mg base N qual scope f cdv A outer s H E).xe → DSs (CXn P w K mg base N qual scope f cdv A outer s H E) W0 WD0 body (t WD0))
    (pure_ : ∀ ds m Q E, sp ds m Q E → t WD0 { nx := fun _ m => Q .non m, rt := Q } (startD N ds) m) : FnOk P w K mg base CX0 (k + 1) f fd ps (liftSp K sp) := by
  refine F.ok S (fun vs H Q E h => ?_) (fun cdv A outer s H vs Q E hr h => ?_)
  · obtain ⟨G, F, m, ds, QD, ED, rep, rs, hs, _⟩ := h
    rw [← rs.length]
    exact len ds m QD ED hs
  · obtain ⟨G, F, m, ds, QD, ED, rep, rs, hs, kv, kx⟩ := h
    refine ⟨_, PSs.nox (hb cdv A outer s H E hr takes0 PassesOwn.never), ?_⟩
    refine ⟨G, F, startD N ds, m, _, ⟨rep, rs_start rs, Lx.no⟩, pure_ ds m QD ED hs, ⟨fun G' H' m' r' s' e r rs' q => kv G' H' m' _ _ e r .non q, kv, ?_, ?_⟩⟩
    · exact fun _ _ _ _ _ _ _ _ q => q.elim
    · exact fun _ _ _ _ _ _ _ _ q => q.elim
end
def m0 : M := fun _ => none
/-- what is asked of the law: True for each script -/
def spLaw : DSp := fun ds m Q _ => ∃ ns : List Int, ds = [.rdl (ns.map D.int)] ∧ ns.length ≤ 63 ∧ m = m0 ∧ ∀ m', Q (.bl true) m'
theorem spLaw_len (x : Str) (ds : List D) (m : M) (Q : D → M → Prop) (E : XD → M → Prop) (h : spLaw ds m Q E) : ds.length = [x].length := by
  obtain ⟨ns, rfl, _⟩ := h
  rfl
theorem law_sp {K : Fr0} (H : Hp) (a : Addr) (ns : List Int) (hl : ns.length ≤ 63) (hS : SqL K H a (ns.map V.int)) : liftSp K spLaw [.ref a] H (fun v _ => v = .bl true) fun _ _ _ => False := by
  refine ⟨H, fun _ => none, m0, [.rdl (ns.map D.int)], fun d _ => d = .bl true, fun _ _ => False, ⟨Same.refl H, (fun _ _ e => (by cases e)), (fun _ _ e => (by cases e)), (fun _ _ e => (by cases e))⟩, .cons (.rdl hS (Rps.ofInts ns)) .nil, ⟨ns, rfl, hl, rfl, fun _ => rfl⟩, ?_, fun _ _ _ _ _ _ _ _ _ q => q.elim⟩
  rintro G' H' m' d v e r p rfl
  cases p
  rfl
end DL

set_option Elab.async false
set_option linter.all false
set_option maxRecDepth 100000
set_option maxHeartbeats 4000000
namespace DL
open PySem PySem.Spec PyProof.Rows L2
/-! ### equality of lists of ints, computed -/
theorem toPs_ints : ∀ ns : List Int, toPs (ns.map D.int) = some (ns.map PyData.int)
  | [] => rfl
  | n :: ns => by
    have ih := toPs_ints ns
    show (toPs (D.int n :: ns.map D.int)) = _
    rw [toPs, ih]
    rfl
theorem eqvAll_ints : ∀ ns ms : List Int, PyData.eqvAll (ns.map PyData.int) (ms.map PyData.int) = decide (ns = ms)
  | [], [] => rfl
  | [], _ :: _ => rfl
  | _ :: _, [] => rfl
  | n :: ns, k :: ks => by
    show (PyData.eqv (.int n) (.int k) && PyData.eqvAll (ns.map PyData.int) (ks.map PyData.int)) = _
    rw [eqvAll_ints ns ks]
    simp [PyData.eqv, Bool.decide_and, Bool.beq_eq_decide_eq]
theorem can_ints : ∀ ns : List Int, PyData.canLayAll0 (ns.map PyData.int) = true
  | [] => rfl
  | n :: ns => by
    show (PyData.canLay0 (.int n) && PyData.canLayAll0 (ns.map PyData.int)) = true
    rw [can_ints ns]
    rfl
theorem depth_ints : ∀ ns : List Int, PyData.depthAll (ns.map PyData.int) ≤ 1
  | [] => by simp [PyData.depthAll]
  | n :: ns => by
    have := depth_ints ns
    simp [PyData.depthAll, PyData.depth]
    omega
theorem shaped_ints (ns : List Int) : SeqAt.shaped (.list (ns.map PyData.int)) = true := by
  unfold SeqAt.shaped
  have h1 := can_ints ns
  have h2 := depth_ints ns
  have h3 : PyData.depth (.list (ns.map PyData.int)) ≤ 64 := by
    show PyData.depthAll (ns.map PyData.int) + 1 ≤ 64
    omega
  rw [decide_eq_true h3]
  show (PyData.canLayAll0 (ns.map PyData.int) && true) = true
  rw [h1]
  rfl
/-- == of two lists of ints, frozen or not -/
theorem dEq_ints {x y : D} {m : M} {ns ms : List Int} {Q : D → M → Prop} (hx : lsOf m x = some (ns.map D.int)) (hy : lsOf m y = some (ms.map D.int)) (h : Q (.bl (decide (ns = ms))) m) : dEq x y m Q := by
  have dat : ∀ {d : D} {ks : List Int}, lsOf m d = some (ks.map D.int) → datOf m d = some (.list (ks.map PyData.int)) ∧ dEqB d d = none ∧ ∀ e, dEqB d e = none := by
    intro d ks hd
    cases d with
    | lst xs => cases hd; refine ⟨?_, rfl, fun e => by cases e <;> rfl⟩; show (toPs _).map _ = _; rw [toPs_ints]; rfl
    | rdl xs => cases hd; refine ⟨?_, rfl, fun e => by cases e <;> rfl⟩; show (toPs _).map _ = _; rw [toPs_ints]; rfl
    | ref a =>
      refine ⟨?_, rfl, fun e => by cases e <;> rfl⟩
      dsimp only [lsOf] at hd
      dsimp only [datOf]
      cases q : m a with
      | none => rw [q] at hd; cases hd
      | some o =>
        rw [q] at hd
        cases o with
        | lst zs => cases hd; show (toPs _).map _ = _; rw [toPs_ints]; rfl
        | _ => cases hd
    | _ => cases hd
  unfold dEq
  rw [(dat hx).2.2 y]
  exact ⟨_, _, (dat hx).1, (dat hy).1, shaped_ints ns, shaped_ints ms, by rw [show PyData.eqv (.list (ns.map PyData.int)) (.list (ms.map PyData.int)) = decide (ns = ms) from eqvAll_ints ns ms]; exact h⟩
theorem dNe_ints {x y : D} {m : M} {ns ms : List Int} {Q : D → M → Prop} (hx : lsOf m x = some (ns.map D.int)) (hy : lsOf m y = some (ms.map D.int)) (h : Q (.bl (!decide (ns = ms))) m) : dNe x y m Q := by
  have e := dEq_ints (Q := fun d m' => ∃ b, d = .bl b ∧ m' = m ∧ b = decide (ns = ms)) hx hy ⟨_, rfl, rfl, rfl⟩
  unfold dEq at e
  unfold dNe
  cases q : dEqB x y with
  | some b =>
    rw [q] at e
    obtain ⟨b', e1, _, e3⟩ := e
    cases e1
    show Q (.bl (!b)) m
    rw [e3]
    exact h
  | none =>
    rw [q] at e
    obtain ⟨p, q', e1, e2, s1, s2, b, eb, _, e3⟩ := e
    refine ⟨p, q', e1, e2, s1, s2, ?_⟩
    cases eb
    rw [e3]
    exact h
/-! ### words for simp -/
section
variable {m : M} {Q : D → M → Prop} {i j : Int} {x y : Str} {b c : Bool}
theorem eq_ii : dEq (.int i) (.int j) m Q ↔ Q (.bl (decide (i = j))) m := Iff.rfl
theorem ne_ii : dNe (.int i) (.int j) m Q ↔ Q (.bl (!decide (i = j))) m := Iff.rfl
theorem eq_ss : dEq (.str x) (.str y) m Q ↔ Q (.bl (decide (x = y))) m := Iff.rfl
theorem ne_ss : dNe (.str x) (.str y) m Q ↔ Q (.bl (!decide (x = y))) m := Iff.rfl
theorem eq_bb : dEq (.bl b) (.bl c) m Q ↔ Q (.bl (decide (b = c))) m := Iff.rfl
theorem ne_bb : dNe (.bl b) (.bl c) m Q ↔ Q (.bl (!decide (b = c))) m := Iff.rfl
end
theorem cut_from {α : Type} (xs : List α) (k : Nat) : cutD xs (some (k : Int)) none = xs.drop k := by
  unfold cutD
  rw [HT.sIx_nat, HT.sIx_none]
  by_cases h : k ≤ xs.length
  · rw [Nat.min_eq_left h]
    exact List.take_of_length_le (by simp)
  · rw [Nat.min_eq_right (by omega), List.drop_length, List.drop_eq_nil_of_le (by omega)]
    simp
theorem cut_to {α : Type} (xs : List α) (k : Nat) : cutD xs none (some (k : Int)) = xs.take k := by
  unfold cutD
  rw [HT.sIx_nat, HT.sIx_none]
  by_cases h : k ≤ xs.length
  · rw [Nat.min_eq_left h]
    simp
  · rw [Nat.min_eq_right (by omega)]
    have e : xs.take k = xs := List.take_of_length_le (by omega)
    rw [e]
    simp
theorem cut_mid {α : Type} (xs : List α) (a b : Nat) : cutD xs (some (a : Int)) (some (b : Int)) = (xs.drop a).take (b - a) := by
  unfold cutD
  rw [HT.sIx_nat, HT.sIx_nat]
  by_cases h : a ≤ xs.length
  · rw [Nat.min_eq_left h]
    by_cases h2 : b ≤ xs.length
    · rw [Nat.min_eq_left h2]
    · rw [Nat.min_eq_right (by omega)]
      rw [List.take_of_length_le (by simp), List.take_of_length_le (by simp; omega)]
  · have e1 : min a xs.length = xs.length := Nat.min_eq_right (by omega)
    have e2 : xs.drop a = [] := List.drop_eq_nil_of_le (by omega)
    rw [e1, e2, List.drop_length]
    simp
theorem cut_fromI {α : Type} (xs : List α) {k : Int} (h : 0 ≤ k) : cutD xs (some k) none = xs.drop k.toNat := by
  obtain ⟨n, rfl⟩ : ∃ n : Nat, k = n := ⟨k.toNat, by omega⟩
  rw [cut_from, Int.toNat_natCast]
theorem cut_toI {α : Type} (xs : List α) {k : Int} (h : 0 ≤ k) : cutD xs none (some k) = xs.take k.toNat := by
  obtain ⟨n, rfl⟩ : ∃ n : Nat, k = n := ⟨k.toNat, by omega⟩
  rw [cut_to, Int.toNat_natCast]
theorem atI_ints {cs : List Int} {i : Int} (h0 : 0 ≤ i) (h : i < cs.length) : atI (cs.map D.int) i = some (.int (cs.getD i.toNat 0)) := by
  obtain ⟨n, rfl⟩ : ∃ n : Nat, i = n := ⟨i.toNat, by omega⟩
  have hn : n < cs.length := by omega
  refine atI_nat ?_
  rw [List.getElem?_map]
  simp [List.getD_eq_getElem?_getD, hn]
theorem mul_small {i j : Int} (h : -(2 ^ 64) < j ∧ j < 2 ^ 64) : DL.MulOk i j := .inl (.inr h)
theorem mul_smallL {i j : Int} (h : -(2 ^ 64) < i ∧ i < 2 ^ 64) : DL.MulOk i j := .inl (.inl h)
theorem div_ok {i j : Int} (h : 0 < j) (hb : j ≤ 1000000000) : CDivW i j := wide_div h (b := 40) (by omega) (by decide) (by decide)
theorem rng_map (lo : Int) (n : Nat) (f : D → D) : (rngD lo n).map f = (List.range n).map fun (k : Nat) => f (.int (lo + (k : Int))) := by
  unfold rngD
  rw [List.map_map]
  rfl
theorem rng_mem {lo : Int} {n : Nat} {x : D} (h : x ∈ rngD lo n) : ∃ k : Nat, k < n ∧ x = .int (lo + (k : Int)) := by
  unfold rngD at h
  obtain ⟨k, hk, rfl⟩ := List.mem_map.mp h
  exact ⟨k, List.mem_range.mp hk, rfl⟩
/-- [te for x in range(lo, lo + n)], nothing changed -/
theorem lc_rng {i : Nat} {vs : List Nat} {te : DTE} {r : DSt} {m : M} {lo : Int} {n : Nat} {Q : List D → M → Prop} (f : Nat → D) (hz : n ≤ sizeLine) (h : ∀ k : Nat, k < n → ∀ Q' : D → M → Prop, Q' (f k) m → te ((wipeD r vs).set i (some (.int (lo + (k : Int))))) m Q') (q : Q ((List.range n).map f) m) : dLcL (.one i) vs dYes te (rngD lo n) [] r m Q := by
  refine lc_pure (fun x => match x with | .int j => f (j - lo).toNat | _ => .non) (by rw [rngD_len]; simpa using hz) (fun x hx => ?_) ?_
  · obtain ⟨k, hk, rfl⟩ := rng_mem hx
    refine ⟨_, rfl, fun Q' q' => h k hk Q' ?_⟩
    have e : (lo + (k : Int) - lo).toNat = k := by omega
    dsimp only at q'
    rw [e] at q'
    exact q'
  · rw [rng_map, List.nil_append]
    have e : ((List.range n).map fun (k : Nat) => f (lo + (k : Int) - lo).toNat) = (List.range n).map f := by
      congr 1
      funext k
      congr 1
      omega
    dsimp only
    rw [e]
    exact q
theorem atI_rng {f : Nat → D} {n : Nat} {i : Int} (h0 : 0 ≤ i) (h : i < n) : atI ((List.range n).map f) i = some (f i.toNat) := by
  obtain ⟨k, rfl⟩ : ∃ k : Nat, i = k := ⟨i.toNat, by omega⟩
  refine atI_nat ?_
  rw [List.getElem?_map, List.getElem?_range (by omega)]
  simp
theorem map_int (f : Nat → Int) (n : Nat) : ((List.range n).map fun k => D.int (f k)) = ((List.range n).map f).map D.int := by
  rw [List.map_map]
  rfl
/-! ### literal places -/
section
variable {x y z u : D} {xs : List D}
theorem at0 : atI (x :: xs) 0 = some x := atI_nat (j := 0) rfl
theorem at1 : atI (x :: y :: xs) 1 = some y := atI_nat (j := 1) rfl
theorem at2 : atI (x :: y :: z :: xs) 2 = some z := atI_nat (j := 2) rfl
theorem at3 : atI (x :: y :: z :: u :: xs) 3 = some u := atI_nat (j := 3) rfl
theorem ix30 : ixN 3 0 = some 0 := by decide
theorem ix31 : ixN 3 1 = some 1 := by decide
theorem ix32 : ixN 3 2 = some 2 := by decide
theorem ix20 : ixN 2 0 = some 0 := by decide
theorem ix21 : ixN 2 1 = some 1 := by decide
theorem ix10 : ixN 1 0 = some 0 := by decide
end
/-! ### isinstance, known -/
section
variable {K : PySem.W.Frag} {m : M} {Q : D → M → Prop} {d : D}
theorem isi_ty {T S : String} {b : Bool} (h1 : tyName m d = some S) (h2 : PySem.W.kitOne K (.type S) (.type T) = some b) : dIsi K [d, .ty T] m Q ↔ Q (.bl b) m := by
  constructor
  · rintro ⟨d', c, b', e, ⟨u, hu, hd⟩, q⟩
    cases e
    rcases hu with ⟨T', e1, rfl⟩ | ⟨C, e1, rfl⟩
    · cases e1
      rcases hd with ⟨S', e2, e3⟩ | ⟨C, fs, e2, _, _⟩
      · rw [h1] at e2
        cases e2
        rw [h2] at e3
        cases e3
        exact q
      · rw [e2] at h1
        cases h1
    · cases e1
  · exact fun q => ⟨d, .ty T, b, rfl, ⟨_, .inl ⟨T, rfl, rfl⟩, .inl ⟨S, h1, h2⟩⟩, q⟩
theorem isi_own {C C' : Addr} {fs : List (Str × D)} {b : Bool} (h1 : ClsI K C) (h2 : PySem.W.kitOne K (.ref C) (.ref C') = some b) : dIsi K [.ins C fs, .ref C'] m Q ↔ Q (.bl b) m := by
  constructor
  · rintro ⟨d', c, b', e, ⟨u, hu, hd⟩, q⟩
    cases e
    rcases hu with ⟨T', e1, rfl⟩ | ⟨D', e1, rfl⟩
    · cases e1
    · cases e1
      rcases hd with ⟨S', e2, e3⟩ | ⟨D, gs, e2, _, e3⟩
      · cases e2
      · cases e2
        rw [h2] at e3
        cases e3
        exact q
  · exact fun q => ⟨_, _, b, rfl, ⟨_, .inr ⟨C', rfl, rfl⟩, .inr ⟨C, fs, rfl, h1, h2⟩⟩, q⟩
theorem isi_ii {i : Int} : dIsi K [.int i, .ty "int"] m Q ↔ Q (.bl true) m := isi_ty rfl rfl
theorem isi_ib {i : Int} : dIsi K [.int i, .ty "bool"] m Q ↔ Q (.bl false) m := isi_ty rfl rfl
theorem isi_ll {xs : List D} : dIsi K [.lst xs, .ty "list"] m Q ↔ Q (.bl true) m := isi_ty rfl rfl
theorem isi_bb {b : Bool} : dIsi K [.bl b, .ty "bool"] m Q ↔ Q (.bl true) m := isi_ty rfl rfl
theorem isi_ss {x : Str} : dIsi K [.str x, .ty "str"] m Q ↔ Q (.bl true) m := isi_ty rfl rfl
theorem isi_tt {xs : List D} : dIsi K [.tup xs, .ty "tuple"] m Q ↔ Q (.bl true) m := isi_ty rfl rfl
theorem isi_is {i : Int} : dIsi K [.int i, .ty "str"] m Q ↔ Q (.bl false) m := isi_ty rfl rfl
theorem isi_si {x : Str} : dIsi K [.str x, .ty "int"] m Q ↔ Q (.bl false) m := isi_ty rfl rfl
end
theorem if_then {c : Prop} [Decidable c] {A B : Prop} (h : c → B → A) (b : B) : if c then A else B := by
  by_cases hc : c
  · rw [if_pos hc]; exact h hc b
  · rw [if_neg hc]; exact b
theorem rot_map (st : List Int) (k : Nat) : (st.map D.int).drop k ++ (st.map D.int).take k = (st.drop k ++ st.take k).map D.int := by
  rw [List.map_append, List.map_drop, List.map_take]
theorem ixN_of {n : Nat} {i : Int} (h0 : 0 ≤ i) (h : i < n) : ixN n i = some i.toNat := by
  unfold ixN
  rw [if_pos h0, if_pos h]
theorem mset_mid {m : M} {a b : Addr} {o o' u : MO} (h : a ≠ b) : mset (mset (mset m a o) b u) a o' = mset (mset m a o') b u := by
  funext x
  unfold mset
  by_cases h1 : x = a
  · subst h1
    rw [if_pos rfl, if_neg h, if_pos rfl]
  · rw [if_neg h1]
    by_cases h2 : x = b
    · rw [if_pos h2, if_pos h2]
    · rw [if_neg h2, if_neg h2, if_neg h1, if_neg h1]
end DL

set_option Elab.async false
set_option linter.all false
set_option maxRecDepth 100000
set_option maxHeartbeats 4000000
namespace DL
open PySem PySem.Spec PyProof.Rows L2
/-! ### sorted, of ints -/
theorem rps_ints {K : PySem.W.Frag} {G : Hp} : ∀ ns : List Int, Rps K G (ns.map D.int) (ns.map V.int)
  | [] => .nil
  | n :: ns => .cons (.int n) (rps_ints ns)
def dSorted (mt : Bool) : DRC := fun ds m Q => ∃ d, ds = [d] ∧ ∃ ns : List Int, lsOf m d = some (ns.map D.int) ∧ ∀ out : List Int, out.Perm ns → out.Pairwise (· ≤ ·) → mkL mt (out.map D.int) m Q
theorem cd_sorted {K : PySem.W.Frag} (mt : Bool) : CallD K (rSortedI K) (dSorted mt) := by
  intro G H F m ds vs QD Q r ps t k
  obtain ⟨d, rfl, ns, e, t⟩ := t
  obtain ⟨v, rfl, p⟩ := rps1 ps
  obtain ⟨a, us, rfl, hs, rs⟩ := ls_ok r p e
  rw [rs.ints] at hs
  exact ⟨a, ns, rfl, hs, fun out l h1 h2 hl => mkL_ok k r (rps_ints out) hl (t out h1 h2)⟩
/-- one smallest: what a sorted list begins with -/
theorem sorted_head {ns out : List Int} (h1 : out.Perm ns) (h2 : out.Pairwise (· ≤ ·)) (h0 : ns ≠ []) : ∃ x r, out = x :: r ∧ x ∈ ns ∧ ∀ y ∈ ns, x ≤ y := by
  cases out with
  | nil => exact absurd h1.symm.eq_nil h0
  | cons x r =>
    refine ⟨x, r, rfl, h1.mem_iff.mp List.mem_cons_self, fun y hy => ?_⟩
    rcases List.mem_cons.mp (h1.mem_iff.mpr hy) with e | e
    · omega
    · exact List.rel_of_pairwise_cons h2 e
open He (ga ma eqO eqO_ok ba)
section
variable {X : Cx} {k : Nat} {f C : Addr} {fd : FuncData} {ps : List Str}
/-- x != y, C's own __eq__ turned: C has no __ne__ of its own -/
theorem op_neO {sp : Sp} (F : FnOk X.prog X.w X.K X.mg X.base (L2.CX X.prog X.w) k f fd ps sp) (hs : PySem.W.findIn X.K (.ref C) "__eq__" = some (some (.ref f))) (hf : PySem.W.isFn X.K (.ref f) = true) (hne : PySem.W.findIn X.K (.ref C) "__ne__" = some (some (.builtin "object.__ne__"))) (hsub : PySem.W.subIn X.K (.ref C) (.type "object") = some true) (hb : Binds X.K fd ps []) (hr : Room (k + 1) X.A) :
    OpR X (compareOp .NotEq) (fun x y H Q => rEqO C sp x y H fun v H' => ∃ b, v = .bl b ∧ Q (.bl !b) H') := by
  intro pins s σ H x y v u Q I rx ry d
  obtain ⟨a, c, dx, dy, fs, gs, rfl, rfl, ha, hc, hsp⟩ := d
  cases rx
  cases ry
  obtain ⟨mA, J, _⟩ := ins_get I.hok ha
  obtain ⟨mB, J', _⟩ := ins_get I.hok hc
  obtain ⟨od, J, _⟩ := J.look
  obtain ⟨od', J', _⟩ := J'.look
  obtain ⟨m, hF⟩ := I.fr
  have XK : X.K.In s.heap := I.kIn
  show wpAny (model X.prog X.w) X.A (richCompare .NotEq (.ref a) (.ref c)) (EP X pins σ Q) X.xe s
  have hl := F.len _ _ _ _ hsp
  have r2 : Vals [V.ref a, V.ref c] [Value.ref a, Value.ref c] := .cons rfl (.cons rfl .nil)
  have run : wpAny (model X.prog X.w) X.A.in1 (call (.ref f) [.ref a, .ref c]) (fun v s' => ∃ b, v = .bool b ∧ EP X pins σ Q (.bool !b) s') X.xe s := by
    refine wpAny_call (codeAny_mono (F.run X.A.in1 X.stack s H ⟨[.ref a, .ref c], []⟩ [.ref a, .ref c] [.ref a, .ref c] _ E0 hr.in1 I.env0.in1 (by
      have := hb s [.ref a, .ref c] I.kIn (by simpa using hl)
      simpa using this) r2 hsp) fun r s' hq => ?_)
    cases r with
    | error e => exact (passL (X := X) pins σ H s e s' I hq)
    | ok fl =>
      cases fl with
      | ret w =>
        obtain ⟨z, H', I', rz, ⟨b, rfl⟩, b', e, q⟩ := I.after hq
        cases rz
        cases e
        exact ⟨b, rfl, .bl !b, H', I', rfl, q⟩
      | next => exact False.elim hq
      | brk => exact False.elim hq
      | cont => exact False.elim hq
  have bind : ∀ self, bindSpecial (.builtin "object.__ne__") self = pure (.builtin "object.__ne__", [self]) := fun self => PySem.F.cmp_object.ne.bind self
  have body : wpAny (model X.prog X.w) X.A.in1 (Builtin.«object.__ne__» ⟨[.ref a, .ref c], []⟩) (fun fin s' => match fin with | .done (.ret v) => v ≠ .notImplemented ∧ EP X pins σ Q v s' | _ => False) X.xe s := by
    unfold Builtin.«object.__ne__»
    repeat (first
      | with_reducible refine wpAny_cRoomFor (by have := hr.un; show X.A.units + 1 < cLine; omega) ?_
      | (refine wpAny_bind (m := callSpecialIfBound? (.ref a) (Str.ofString "__eq__") [.ref c])
          (PySem.W.ifBound_K XK J hs hf (wpAny_mono run (fun r s' hr => by
            obtain ⟨b, rfl, hq⟩ := hr
            repeat (first | exact ⟨nofun, hq⟩ | exact hq | exact wpAny_pure hq | exact wpAny_truthy_bool hq | (refine wpAny_bind (m := truthy (.bool _)) (wpAny_truthy_bool ?_)) | wp_step)) fun _ _ e => e)))
      | wp_step)
  have chk : ∀ Q' : Unit → Shared → Prop, Q' () s → wpAny (model X.prog X.w) X.A.in1 (checkBuiltinCall "object.__ne__" ⟨[.ref a, .ref c], []⟩) Q' X.xe s := by
    intro Q' q'
    simp only [checkBuiltinCall, PySem.F.cmpKind_ne, PySem.F.cmpSplit_ne]
    refine wpAny_bind ?_
    unfold isInstance
    refine wpAny_bind (J.type.here ((PySem.W.looks_subIn XK hsub).here ?_))
    have ha := PySem.F.cmpArgs_ne (.ref a) (.ref c)
    simp only [Bool.not_true, Bool.false_eq_true, if_false]
    cases hsig : Manifest.signature? "object.__ne__" with
    | none => exact wpAny_pure q'
    | some sig =>
      simp only [argsOk, hsig] at ha
      have h2 : Bind.checkArgs "object.__ne__" sig ⟨[.ref a, .ref c], []⟩ = pure () := ha
      show wpAny (model X.prog X.w) X.A.in1 (Bind.checkArgs "object.__ne__" sig ⟨[.ref a, .ref c], []⟩) Q' X.xe s
      rw [h2]
      exact wpAny_pure q'
  have callB : wpAny (model X.prog X.w) X.A (call (.builtin "object.__ne__") [.ref a, .ref c]) (fun v s' => v ≠ .notImplemented ∧ EP X pins σ Q v s') X.xe s := by
    refine wpAny_call (codeAny_call_builtin PySem.F.cmp_object.ne.plain PySem.F.cmpEntry_ne (chk _ (wpAny_mono body (fun fin s' h => ?_) fun _ _ e => e)))
    cases fin with
    | done fl =>
      cases fl with
      | ret v => exact ⟨h.1, h.2⟩
      | _ => exact h.elim
    | again _ => exact h.elim
  have ifb : ∀ Q'' : Option Value → Shared → Prop, wpAny (model X.prog X.w) X.A (call (.builtin "object.__ne__") [.ref a, .ref c]) (fun v => Q'' (some v)) X.xe s → wpAny (model X.prog X.w) X.A (callSpecialIfBound? (.ref a) "__ne__" [.ref c]) Q'' X.xe s := by
    intro Q'' h
    simp only [callSpecialIfBound?, bindSpecialIfBound?]
    refine wpAny_holding (wpAny_bind (wpAny_bind (wpAny_bind (J.type.here ((PySem.W.looks_findIn XK hne).here ?_)))))
    simp only [bind]
    refine wpAny_bind (wpAny_askSetting (wpAny_ite ?_))
    have fin : wpAny (model X.prog X.w) X.A (call (.builtin "object.__ne__") ([.ref a] ++ [.ref c]) >>= fun v => pure (some v)) Q'' X.xe s := wpAny_bind (wpAny_mono h (fun v s' h' => wpAny_pure h') fun _ _ h' => h')
    split
    · exact wpAny_bind (wpAny_pure (wpAny_pure (by exact fin)))
    · exact wpAny_tryCatch (wpAny_bind (wpAny_pure (wpAny_pure (by exact fin))))
  have one : wpAny (model X.prog X.w) X.A (tryCompare (.ref a) (cmpInfo .NotEq).2.1 (.ref c)) (fun r s' => ∃ v, r = some v ∧ EP X pins σ Q v s') X.xe s := by
    unfold tryCompare
    refine wpAny_bind (ifb _ (wpAny_mono callB (fun v s' hv => ?_) fun _ _ e => e))
    obtain ⟨h1, h2⟩ := hv
    cases v <;> first | exact absurd rfl h1 | exact wpAny_pure ⟨_, rfl, h2⟩
  unfold richCompare
  simp only [oneThing_ref]
  refine wpAny_holding (wpAny_bind (wpAny_cRoomFor (by have := hr.un; omega) ?_))
  refine wpAny_bind (J.type.here (wpAny_bind (J'.type.here ?_)))
  rw [show (Value.ref C != Value.ref C) = false from by simp]
  simp only [Bool.false_eq_true, if_false]
  refine wpAny_bind (wpAny_pure ?_)
  simp only [Bool.false_eq_true, if_false]
  refine wpAny_bind (wpAny_mono one (fun r s' z => ?_) fun _ _ e => e)
  obtain ⟨v, rfl, hq⟩ := z
  exact wpAny_pure hq
variable {sp : DSp}
def dNeO (C : Addr) (sp : DSp) : DR2 := fun x y m Q => dEqO C sp x y m fun d m' => ∃ b, d = .bl b ∧ Q (.bl !b) m'
theorem od_neO {K : PySem.W.Frag} : OpD K (fun x y H Q => rEqO C (liftSp K sp) x y H fun v H' => ∃ b, v = .bl b ∧ Q (.bl !b) H') (dNeO C sp) := by
  intro G H F m x y vx vy QD Q r px py t k
  refine od_eqO G H F m x y vx vy _ _ r px py t fun G' H' m' d v e r' p q => ?_
  obtain ⟨b, rfl, q⟩ := q
  cases p
  exact ⟨b, rfl, k G' H' m' _ _ e r' (.bl _) q⟩
end
def neB (C : Str) (K : Fr0) : Bool := eqO (PySem.W.findIn K (.ref (ga K C)) "__ne__") (some (some (.builtin "object.__ne__"))) && decide (PySem.W.subIn K (.ref (ga K C)) (.type "object") = some true)
theorem ne_of {K : Fr0} {C : Str} (h : neB C K = true) : PySem.W.findIn K (.ref (ga K C)) "__ne__" = some (some (.builtin "object.__ne__")) ∧ PySem.W.subIn K (.ref (ga K C)) (.type "object") = some true := ⟨eqO_ok (ba h).1, of_decide_eq_true (ba h).2⟩
section
variable {m : M} {Q : D → M → Prop} {i : Int}
theorem eq_nn : dEq .non .non m Q ↔ Q (.bl true) m := Iff.rfl
theorem ne_nn : dNe .non .non m Q ↔ Q (.bl false) m := Iff.rfl
end
/-- [x for x in range(lo, lo + n) if test], nothing changed -/
theorem lc_rngF {i : Nat} {vs : List Nat} {tt : DTT} {te : DTE} {r : DSt} {m : M} {lo : Int} {n : Nat} {Q : List D → M → Prop} (p : Nat → Bool) (f : Nat → D) (hz : n ≤ sizeLine) (ht : ∀ k : Nat, k < n → ∀ Q' : Bool → M → Prop, Q' (p k) m → tt ((wipeD r vs).set i (some (.int (lo + (k : Int))))) m Q') (h : ∀ k : Nat, k < n → p k = true → ∀ Q' : D → M → Prop, Q' (f k) m → te ((wipeD r vs).set i (some (.int (lo + (k : Int))))) m Q') (q : Q (((List.range n).filter p).map f) m) : dLcL (.one i) vs tt te (rngD lo n) [] r m Q := by
  refine lc_filter (fun x => match x with | .int j => p (j - lo).toNat | _ => false) (fun x => match x with | .int j => f (j - lo).toNat | _ => .non) (by rw [rngD_len]; simpa using hz) (fun x hx => ?_) ?_
  · obtain ⟨k, hk, rfl⟩ := rng_mem hx
    have e : (lo + (k : Int) - lo).toNat = k := by omega
    dsimp only
    rw [e]
    exact ⟨_, rfl, ht k hk, h k hk⟩
  · have e : ∀ k : Nat, (lo + (k : Int) - lo).toNat = k := fun k => by omega
    unfold rngD
    rw [List.nil_append, List.filter_map, List.map_map]
    have e1 : ((fun x => match x with | .int j => p (j - lo).toNat | _ => false) ∘ fun (k : Nat) => D.int (lo + (k : Int))) = p := funext fun k => by simp only [Function.comp, e]
    have e2 : ((fun x => match x with | .int j => f (j - lo).toNat | _ => .non) ∘ fun (k : Nat) => D.int (lo + (k : Int))) = f := funext fun k => by simp only [Function.comp, e]
    rw [e1, e2]
    exact q
end DL

set_option Elab.async false
set_option linter.all false
set_option maxRecDepth 100000
set_option maxHeartbeats 4000000
namespace DL
open PySem PySem.Spec PyProof.Rows L2
open He (ga ma eqO eqO_ok ba)
/-! ### raise C() -/
section
variable {X : Cx} {W : WX} {WD : DWX} {x : Str} {p pos pos' : Pos} {C : Addr} {bmB : List Value} {B newId initId : String}
theorem pmk_own0 (F : ExcBaseFacts B newId initId bmB) (q : PySem.W.excIn X.K C bmB newId = true) (gC : X.mg x = some (.ref C)) (kC : PySem.W.keepIn X.K (.ref C) = true) (r : Raises X (.ref C)) (hg : Gl X x) (hdb : (x == ("__debug__" : Str)) = false := by decide) :
    PMk X (.Call (.Name x p) [] [] pos) (fun _ H Q => Q (.ref C) none H) := by
  intro pins s σ H Q I h
  refine wpAny_Call_Name_kw (ld_glob I hg gC ?_ hdb)
  refine PySem.W.callWith_K0 I.kIn kC ?_
  show wpAny _ _ (call (.ref C) []) _ _ _
  obtain ⟨hp, g, dr, tk, os⟩ := s
  obtain ⟨bm, N, nm, qn, bs, hdct, sn, sub, ab, col, dd, k0, k1, k2, k3, k5, mN, hC, hN, hni, T⟩ := exc_obj I.kIn q
  refine wpAny_call_exc_subT F T hC hN hni (fun h' e hm => ?_) (Nat.zero_le _)
  exact mk_of I hm r h (I.hok.gone hm.new)
/-- an exception of class C, with these fields -/
def dRaise0 (C : Addr) (WD : DWX) : DTS := fun _ r m => WD ⟨C, []⟩ r m
structure ExC (K : PySem.W.Frag) (C : Addr) : Prop where
  q : PySem.W.excIn K C [.type "ValueError", .type "Exception", .type "BaseException", .type "object"] "ValueError.__new__" = true
  kC : PySem.W.keepIn K (.ref C) = true
  exC : PySem.W.subIn K (.ref C) (.type "BaseException") = some true
  tyC : PySem.W.typeIn K (.ref C) = some (.type "type")
theorem ds_raise0 (e : ExC X.K C) (gC : X.mg x = some (.ref C)) (hg : Gl X x) (hc : X.calm = true) (tk : Takes X W) (hdb : (x == ("__debug__" : Str)) = false := by decide) : DS X W WD (.Raise (some (.Call (.Name x p) [] [] pos)) none pos') (dRaise0 C WD) := by
  refine PS.imp (ps_raise hc tk (pmk_own0 PySem.F.excBase_ValueError e.q gC e.kC (raises_own e.exC e.tyC) hg hdb)) fun E σ H h => ?_
  obtain ⟨G, F, r, m, DD, x, t, k⟩ := h
  exact x.lx G H m r σ C [] none (Same.refl G) x.rep x.rs (.inl ⟨rfl, rfl⟩) t
end
/-! ### an exception's own __init__ that keeps its arguments -/
/-- stores: field, slot -/
def tSts (K : PySem.W.Frag) : List (Str × Nat) → TS
  | [] => tNext
  | (f, i) :: r => tSeq (tOst K f (tVar 0) (tVar i)) (tSts K r)
theorem sts_more {K : PySem.W.Frag} {C a dx : Addr} (T : OexC K C) : ∀ (l : List (Str × Nat)) (ws : List V) (σ : L2.St) (H : Hp) (fs : List (Str × V)) (E : Ends), (∀ q ∈ l, PySem.W.findIn K (.ref C) q.1 = some none) → l.length = ws.length → (∀ (j : Nat) (i : Nat × V), (l.map (·.2)).zip ws = (l.map (·.2)).zip ws → ((l.map (·.2)).zip ws)[j]? = some i → σ[i.1]? = some (some i.2)) → σ[0]? = some (some (.ref a)) → H a = some (exo a C (some dx)) → dx ≠ a → H dx = some (exd dx fs) → fs.length + l.length ≤ 900 →
    E.nx σ (upd H dx (exd dx (((l.map (·.1)).zip ws).reverse ++ fs))) → tSts K l E σ H
  | [], ws, σ, H, fs, E, _, hl, _, _, ha, _, hd, _, h => by
    have e : upd H dx (exd dx fs) = H := by
      funext b
      unfold upd
      by_cases hb : b = dx
      · rw [if_pos hb, hb, hd]
      · rw [if_neg hb]
    show E.nx σ H
    simpa [e] using h
  | (f, i) :: l, [], σ, H, fs, E, _, hl, _, _, _, _, _, _, _ => by cases hl
  | (f, i) :: l, w :: ws, σ, H, fs, E, hn, hl, hs, h0, ha, hne, hd, hz, h => by
    refine ⟨w, hs 0 (i, w) rfl rfl, .ref a, h0, a, C, rfl, T, hn _ List.mem_cons_self, .inr ⟨dx, fs, ha, hd, by omega, ?_⟩⟩
    refine sts_more T l ws σ _ _ E (fun q hq => hn q (List.mem_cons_of_mem _ hq)) (by simpa using hl) (fun j k _ hk => hs (j + 1) k rfl (by simpa using hk)) h0 (by rw [upd_ne (fun z => hne z.symm)]; exact ha) hne upd_same (by simp at hz ⊢; omega) ?_
    have e : ∀ o o', upd (upd H dx o) dx o' = upd H dx o' := fun o o' => by
      funext b
      unfold upd
      by_cases hb : b = dx
      · rw [if_pos hb, if_pos hb]
      · rw [if_neg hb, if_neg hb, if_neg hb]
    rw [e]
    simpa using h
/-- what an exception's __init__ keeps: its fields, the last stored first -/
def spX (C : Addr) (fs : List Str) : Sp := fun vs H Q _ => ∃ (a : Addr) (ws : List V), vs = .ref a :: ws ∧ ws.length = fs.length ∧ H a = some (exo a C none) ∧
  ∀ dx, H dx = none → dx ≠ a → Q .non (upd (upd H dx (exd dx (fs.zip ws).reverse)) a (exo a C (some dx)))
theorem zipIdx_fst : ∀ (l : List Str) (n : Nat), (l.zipIdx n).map (·.1) = l
  | [], _ => rfl
  | x :: l, n => by simp
theorem zip_slots : ∀ (l : List Str) (n : Nat) (ws : List V), l.length = ws.length → ∀ (j : Nat) (i : Nat × V), (((l.zipIdx n).map (·.2)).zip ws)[j]? = some i → i.1 = n + j ∧ ws[j]? = some i.2
  | [], _, _, _, j, i, h => by simp at h
  | x :: l, n, [], hl, _, _, _ => by cases hl
  | x :: l, n, w :: ws, hl, 0, i, h => by
    simp at h
    subst h
    simp
  | x :: l, n, w :: ws, hl, j + 1, i, h => by
    have := zip_slots l (n + 1) ws (by simpa using hl) j i (by simpa using h)
    refine ⟨by omega, by simpa using this.2⟩
theorem fn_exc {P : Program} {w : World} {K : PySem.W.Frag} {mg : Str → Option Value} {base : Heap} {x qual : Str} {params : Arguments} {body : List Stmt} {scope : Scope} {dvs : List V} {kws : List (Str × V)} {fI C : Addr} {fd : FuncData} {N ps : List Str} {f : Str} {fs : List Str} {k : Nat}
    (F : FunD K x qual params body scope dvs kws fI fd) (S : FnScope N ps scope) (T : OexC K C) (hn : ∀ g ∈ f :: fs, PySem.W.findIn K (.ref C) g = some none) (hps : ps.length = fs.length + 2) (hz : fs.length ≤ 100)
    (hb : ∀ (cdv : Value) (A : Around) (outer : List Env) (s : Shared) (H : Hp) (E : XK), PSs (CXo P w K mg base N qual scope fI cdv A outer s H E) body (tSts K ((f :: fs).zipIdx 1))) : FnOk P w K mg base (L2.CX P w) (k + 1) fI fd ps (spX C (f :: fs)) := by
  refine F.ok S (fun vs H Q E h => ?_) (fun cdv A outer s H vs Q E hr h => ?_)
  · obtain ⟨a, ws, rfl, hl, _⟩ := h
    simp at hl ⊢
    omega
  · obtain ⟨a, ws, rfl, hl, ha, q⟩ := h
    refine ⟨_, hb cdv A outer s H E, ?_⟩
    obtain ⟨w, ws, rfl⟩ : ∃ w r, ws = w :: r := by
      cases ws with
      | nil => cases hl
      | cons w r => exact ⟨w, r, rfl⟩
    have hlen : ws.length = fs.length := by simpa using hl
    have hσ : ∀ (j : Nat) (v : V), (.ref a :: w :: ws)[j]? = some v → (L2.start N (.ref a :: w :: ws))[j]? = some (some v) := fun j v e => by
      unfold L2.start
      have hj : j < (V.ref a :: w :: ws).length := by
        rcases Nat.lt_or_ge j (V.ref a :: w :: ws).length with h | h
        · exact h
        · rw [List.getElem?_eq_none h] at e
          cases e
      rw [List.getElem?_append_left (by rw [List.length_map]; exact hj), List.getElem?_map, e]
      rfl
    refine ⟨w, hσ 1 w rfl, .ref a, hσ 0 _ rfl, a, C, rfl, T, hn f List.mem_cons_self, .inl ⟨ha, fun dx hd hne => ?_⟩⟩
    refine sts_more T (fs.zipIdx 2) ws _ _ [(f, w)] _ (fun g hg => hn _ (List.mem_cons_of_mem _ ?_)) (by simp [hlen]) (fun j i _ e => ?_) (hσ 0 _ rfl) upd_same hne (by rw [upd_ne hne]; exact upd_same) (by simp; omega) ?_
    · have := List.mem_map_of_mem (f := (·.1)) hg
      rw [zipIdx_fst] at this
      exact this
    · obtain ⟨e1, e2⟩ := zip_slots fs 2 ws hlen.symm j i e
      rw [e1]
      refine hσ _ _ ?_
      rw [show 2 + j = j + 2 by omega]
      simpa using e2
    · have e := q dx hd hne
      rw [zipIdx_fst]
      have e2 : upd (upd (upd H dx (exd dx [(f, w)])) a (exo a C (some dx))) dx (exd dx ((fs.zip ws).reverse ++ [(f, w)])) = upd (upd H dx (exd dx ((f :: fs).zip (w :: ws)).reverse)) a (exo a C (some dx)) := by
        funext b
        unfold upd
        by_cases h1 : b = dx
        · subst h1
          rw [if_pos rfl, if_neg hne, if_pos rfl]
          simp
        · rw [if_neg h1]
          by_cases h2 : b = a
          · rw [if_pos h2, if_pos h2]
          · rw [if_neg h2, if_neg h2, if_neg h1, if_neg h1]
      rw [e2]
      exact e
/-! ### raise C(e, ..) -/
section
variable {X : Cx} {W : WX} {WD : DWX} {x : Str} {p pos pos' : Pos} {C fI : Addr} {fs ps : List Str} {k : Nat} {fd : FuncData} {e : Expr} {es : List Expr} {ta : DTA}
def dRaise (C : Addr) (fs : List Str) (WD : DWX) (ta : DTA) : DTS := fun _ r m => ta r m fun ds m1 => ds.length = fs.length ∧ WD ⟨C, (fs.zip ds).reverse⟩ r m1
theorem rpf_zip {K : PySem.W.Frag} {G : Hp} : ∀ {fs : List Str} {ds : List D} {vs : List V}, Rps K G ds vs → Rpf K G (fs.zip ds) (fs.zip vs)
  | [], _, _, _ => .nil
  | _ :: _, _, _, .nil => .nil
  | _ :: _, _, _, .cons r rs => .cons r (rpf_zip rs)
theorem rpf_app {K : PySem.W.Frag} {G : Hp} : ∀ {a b : List (Str × D)} {u v : List (Str × V)}, Rpf K G a u → Rpf K G b v → Rpf K G (a ++ b) (u ++ v)
  | _, _, _, _, .nil, h => h
  | _, _, _, _, .cons r t, h => .cons r (rpf_app t h)
theorem rpf_rev {K : PySem.W.Frag} {G : Hp} : ∀ {a : List (Str × D)} {u : List (Str × V)}, Rpf K G a u → Rpf K G a.reverse u.reverse
  | _, _, .nil => .nil
  | _, _, .cons r t => by
    rw [List.reverse_cons, List.reverse_cons]
    exact rpf_app (rpf_rev t) (.cons r .nil)
theorem ds_raise (T : OexC X.K C) (iC : PySem.W.findIn X.K (.ref C) "__init__" = some (some (.ref fI))) (tI : PySem.W.typeIn X.K (.ref fI) = some (.type "function")) (F1 : FnOk X.prog X.w X.K X.mg X.base (L2.CX X.prog X.w) k fI fd ps (spX C fs)) (hr : Room (k + 1) X.A) (hb : Binds X.K fd ps []) (hg : Gl X x) (hm : X.mg x = some (.ref C)) (hz : fs.length ≤ 100) (hc : X.calm = true) (tk : Takes X W) (ha : DA X W WD (e :: es) ta)
    (hdb : (x == ("__debug__" : Str)) = false := by decide) (he : starEach (e :: es) X.env = (false, eval e X.env) :: starEach es X.env := by rfl) (hpl : (backTo pos (starEach es X.env)).any (·.1) = false := by rfl) :
    DS X W WD (.Raise (some (.Call (.Name x p) (e :: es) [] pos)) none pos') (dRaise C fs WD ta) := by
  refine PS.imp (ps_raise hc tk (pmk_oex T iC tI F1 hr hb .nil passL hg hm ha hdb he hpl)) fun E σ H h => ?_
  obtain ⟨G, F, r, m, DD, x, t, k⟩ := h
  refine ⟨G, F, r, m, _, x, t, fun G1 H1 m1 ds vs e1 r1 p1 t1 => ?_⟩
  obtain ⟨hl, t1⟩ := t1
  have hlv : vs.length = fs.length := by rw [← p1.length]; exact hl
  refine ⟨by omega, fun a ha => ⟨a, vs, by simp, hlv, upd_same, fun dx hd hne => ⟨rfl, dx, _, upd_same, by rw [upd_ne hne]; exact upd_same, by rw [upd_ne hne] at hd; exact hd, ?_⟩⟩⟩
  have hd1 : H1 dx = none := by rw [upd_ne hne] at hd; exact hd
  have eH : upd (del (upd (upd (upd H1 a (exo a C none)) dx (exd dx (fs.zip vs).reverse)) a (exo a C (some dx))) a) dx (.xd (fs.zip vs).reverse) = upd H1 dx (.xd (fs.zip vs).reverse) := by
    funext b
    unfold upd del
    by_cases h1 : b = dx
    · rw [if_pos h1, if_pos h1]
    · rw [if_neg h1, if_neg h1]
      by_cases h2 : b = a
      · rw [if_pos h2, h2, ha]
      · rw [if_neg h2]
        dsimp only
        rw [if_neg h2, if_neg h1, if_neg h2]
  rw [eH]
  obtain ⟨s2, r2⟩ := r1.froz (o := .xd (fs.zip vs).reverse) hd1
  exact x.lx _ _ m1 r σ C _ (some dx) (e1.trans s2) r2 ((x.rs.mono e1).mono s2) (.inr ⟨dx, _, rfl, upd_same, rpf_rev (rpf_zip (p1.mono s2))⟩) t1
end
/-! ### try .. except C -/
section
variable {X : Cx} {W : WX} {WD : DWX} {x n : Str} {c : Addr} {i : Nat} {body suite : List Stmt} {b₀ : Stmt} {np pos pos' : Pos} {tb : DWX → DTS}
def dCatch (K : PySem.W.Frag) (c : Addr) (ts : DTS) (WD : DWX) (DD : DEnds) : DWX := fun x r m => ∃ b, PySem.W.exmOne K (.ref x.C) (.ref c) = some b ∧ (b = true → ts DD r m) ∧ (b = false → WD x r m)
def dTry (K : PySem.W.Frag) (c : Addr) (tb : DWX → DTS) (ts : DTS) (WD : DWX) : DTS := fun DD r m => tb (dCatch K c ts WD DD) DD r m
theorem ds_try {ts : DTS} (hs : X.stack = X.env :: X.outer) (hf : X.env.frame = some X.env.locals) (hc : X.mg x = some (.ref c)) (hg : Gl X x) (tk : Takes X W)
    (hb : ∀ (W : WX) (WD : DWX) (pn : List (Addr × Obj)) (xe : Value → Shared → Prop), Takes (X.tr pn xe) W → PassesOwn (model X.prog X.w) X.A X.env xe → DSs (X.tr pn xe) W WD body (tb WD))
    (hsu : ∀ (a : Addr) (oe : Obj) (cls : Value) (d : Option Addr) (pn : List (Addr × Obj)), Zc cls d oe → (∃ vs, oe.data = .fields vs) → DSs (X.suite a ((a, oe) :: pn)) W0 WD0 (b₀ :: suite) ts) (hdb : (x == ("__debug__" : Str)) = false := by decide) :
    DS X W WD (.Try body [.ExceptHandler (some (.Name x np)) none (b₀ :: suite) pos'] [] [] pos) (dTry X.K c tb ts WD) := by
  refine PS.imp (ps_try_only (tb := fun W E σ H => ∃ WD', upS X.K W WD' (tb WD') E σ H) (ts := fun _ _ _ => upS X.K W0 WD0 ts) hs hf ⟨hg, hdb, .inl hc⟩ tk (fun W pn xe tk' hp' => ⟨fun pins s σ H E I h => ?_⟩) (fun a oe cls d pn hz hv => hsu a oe cls d pn hz hv)) fun E σ H h => ?_
  · obtain ⟨WD', h⟩ := h
    exact (hb W WD' pn xe tk' hp').run pins s σ H E I h
  · obtain ⟨G, F, r, m, DD, x, t, k⟩ := h
    refine ⟨dCatch X.K c ts WD DD, G, F, r, m, DD, ⟨x.rep, x.rs, fun G' H' m' r' s' C fs d e r1 rs1 rx wd => ?_⟩, t, k⟩
    obtain ⟨b, eb, h1, h2⟩ := wd
    exact ⟨b, eb, fun hb a ha => ⟨G', F, r', m', DD, ⟨r1, rs1, Lx.no⟩, h1 hb, k.mono e⟩, fun hb => x.lx G' H' m' r' s' C fs d e r1 rs1 rx (h2 hb)⟩
/-- .. as n -/
abbrev DTX := Addr → Addr → Option Addr → DTS
def dCatchAs (K : PySem.W.Frag) (c : Addr) (i : Nat) (ts : DTX) (WD : DWX) (DD : DEnds) : DWX := fun x r m => ∃ b, PySem.W.exmOne K (.ref x.C) (.ref c) = some b ∧
  (b = true → ∀ a d, m a = none → ts a x.C d { nx := fun r' m' => DD.nx (r'.set i none) m', rt := DD.rt, bk := fun r' m' => DD.bk (r'.set i none) m', ct := fun r' m' => DD.ct (r'.set i none) m' } (r.set i (some (.exn a d x.fs))) m) ∧ (b = false → WD x r m)
def dTryAs (K : PySem.W.Frag) (c : Addr) (i : Nat) (tb : DWX → DTS) (ts : DTX) (WD : DWX) : DTS := fun DD r m => tb (dCatchAs K c i ts WD DD) DD r m
theorem rp_exn {K : PySem.W.Frag} {G : Hp} {a : Addr} {d : Option Addr} {fs : List (Str × D)} (h : RpX K G d fs) : Rp K G (.exn a d fs) (.ref a) := by
  rcases h with ⟨rfl, rfl⟩ | ⟨dd, fv, rfl, h1, h2⟩
  · exact .exn0 a
  · exact .exnS h1 h2
theorem ds_try_as {ts : DTX} (hs : X.stack = X.env :: X.outer) (hf : X.env.frame = some X.env.locals) (hN : X.N.Nodup) (hi : X.N[i]? = some n) (hln : X.env.kindOf n = some .local) (hc : X.mg x = some (.ref c)) (hg : Gl X x) (tk : Takes X W)
    (hb : ∀ (W : WX) (WD : DWX) (pn : List (Addr × Obj)) (xe : Value → Shared → Prop), Takes (X.tr pn xe) W → PassesOwn (model X.prog X.w) X.A X.env xe → DSs (X.tr pn xe) W WD body (tb WD))
    (hsu : ∀ (a : Addr) (oe : Obj) (C : Addr) (d : Option Addr) (pn : List (Addr × Obj)), Zc (.ref C) d oe → (∃ vs, oe.data = .fields vs) → DSs (X.suite a ((a, oe) :: pn)) W0 WD0 (b₀ :: suite) (ts a C d)) (hdb : (x == ("__debug__" : Str)) = false := by decide) :
    DS X W WD (.Try body [.ExceptHandler (some (.Name x np)) (some n) (b₀ :: suite) pos'] [] [] pos) (dTryAs X.K c i tb ts WD) := by
  refine PS.imp (ps_try_as (i := i) (tb := fun W E σ H => ∃ WD', upS X.K W WD' (tb WD') E σ H) (ts := fun a cls d E σ H => ∃ C, cls = .ref C ∧ upS X.K W0 WD0 (ts a C d) E σ H) hs hf hN hi hln ⟨hg, hdb, .inl hc⟩ tk (fun W pn xe tk' hp' => ⟨fun pins s σ H E I h => ?_⟩) (fun a oe cls d pn hz hv => ⟨fun pins s σ H E I h => ?_⟩)) fun E σ H h => ?_
  · obtain ⟨WD', h⟩ := h
    exact (hb W WD' pn xe tk' hp').run pins s σ H E I h
  · obtain ⟨C, rfl, h⟩ := h
    exact (hsu a oe C d pn hz hv).run pins s σ H E I h
  · obtain ⟨G, F, r, m, DD, x, t, k⟩ := h
    refine ⟨dCatchAs X.K c i ts WD DD, G, F, r, m, DD, ⟨x.rep, x.rs, fun G' H' m' r' s' C fs d e r1 rs1 rx wd => ?_⟩, t, k⟩
    obtain ⟨b, eb, h1, h2⟩ := wd
    refine ⟨b, eb, fun hb a ha => ⟨C, rfl, G', F, _, m', _, ⟨r1, rs1.set (rp_exn rx), Lx.no⟩, h1 hb a d (r1.mfree ha), ?_⟩, fun hb => x.lx G' H' m' r' s' C fs d e r1 rs1 rx (h2 hb)⟩
    have k' := k.mono e
    exact ⟨fun G2 H2 m2 r2 s2 e2 rep2 rs2 t2 => k'.nx G2 H2 m2 _ _ e2 rep2 (rs_none rs2 i none) t2, k'.rt, fun G2 H2 m2 r2 s2 e2 rep2 rs2 t2 => k'.bk G2 H2 m2 _ _ e2 rep2 (rs_none rs2 i none) t2, fun G2 H2 m2 r2 s2 e2 rep2 rs2 t2 => k'.ct G2 H2 m2 _ _ e2 rep2 (rs_none rs2 i none) t2⟩
/-- e.f, e the exception that is handled -/
def dXf (a cls : Addr) (d : Option Addr) (C : Addr) (f : Str) (te : DTE) : DTE := fun r m Q => te r m fun v m1 => ∃ fs y, v = .exn a d fs ∧ cls = C ∧ fs.lookup f = some y ∧ Q y m1
theorem rpf_look {K : PySem.W.Frag} {G : Hp} {f : Str} : ∀ {a : List (Str × D)} {u : List (Str × V)} {y : D}, Rpf K G a u → a.lookup f = some y → ∃ v, u.lookup f = some v ∧ Rp K G y v
  | _, _, _, .nil, h => by cases h
  | _, _, y, .cons (n := n) (d := d) (v := v) r t, h => by
    rw [List.lookup_cons] at h ⊢
    cases e : f == n with
    | true =>
      rw [e] at h
      cases h
      exact ⟨v, rfl, r⟩
    | false =>
      rw [e] at h
      exact rpf_look t h
theorem de_xf {a cls C : Addr} {oe : Obj} {d : Option Addr} {pn : List (Addr × Obj)} {e : Expr} {te : DTE} {f : Str} {W : WX} {WD : DWX} (T : XfC X.K C) (hno : PySem.W.findIn X.K (.ref C) f = some none) (hz : Zc (.ref cls) d oe) (hf : ∃ vs, oe.data = .fields vs)
    (he : DE (X.suite a ((a, oe) :: pn)) W WD e te) (hb : attributeBase e f X.env (eval e X.env) = eval e X.env := by rfl) : DE (X.suite a ((a, oe) :: pn)) W WD (.Attribute e f pos) (dXf a cls d C f te) := by
  refine PE.imp (pe_xf T hno hz hf he hb) fun σ H Q h => ?_
  obtain ⟨G, F, r, m, QD, x, t, k⟩ := h
  refine ⟨G, F, r, m, _, x, t, fun G1 H1 m1 d1 v1 e1 r1 p1 t1 => ?_⟩
  obtain ⟨fs, y, rfl, rfl, hl, q⟩ := t1
  cases p1 with
  | exn0 a => cases hl
  | exnS h1 h2 =>
    obtain ⟨v, hv, rv⟩ := rpf_look h2 hl
    exact ⟨rfl, rfl, _, _, v, rfl, r1.ext _ _ h1, hv, k G1 H1 m1 y v e1 r1 rv q⟩
end
/-! ### facts of an exception's class -/
def excB (C : Str) (K : Fr0) : Bool := PySem.W.excIn K (ga K C) [.type "ValueError", .type "Exception", .type "BaseException", .type "object"] "ValueError.__new__" && (PySem.W.keepIn K (.ref (ga K C)) && (decide (PySem.W.subIn K (.ref (ga K C)) (.type "BaseException") = some true) && decide (PySem.W.typeIn K (.ref (ga K C)) = some (.type "type"))))
theorem exc_of {K : Fr0} {C : Str} (h : excB C K = true) : ExC K (ga K C) := by
  obtain ⟨h1, h⟩ := ba h
  obtain ⟨h2, h⟩ := ba h
  obtain ⟨h3, h4⟩ := ba h
  exact ⟨h1, h2, of_decide_eq_true h3, of_decide_eq_true h4⟩
def oexIn (K : PySem.W.Frag) (C : Addr) : Bool := match K.lookup C with
  | some ⟨.type "type", _, .cls cd, sl⟩ => (match cd.mro, sl.toList with
    | .ref C' :: bm, [_, _, _, _, some (.builtin n), _] => C' == C && (n == "ValueError.__new__" && (!cd.hasDel && (cd.hasDict && PySem.HandSPX.refsVE bm)))
    | _, _ => false)
  | _ => false
theorem oex_in {K : PySem.W.Frag} {C : Addr} (q : oexIn K C = true) : ∃ nm q N bs bm sn sub ab col dd k0 k1 k2 k3 k5, K.lookup C = some (excClassObj nm q C N bs bm true sn sub ab col dd k0 k1 k2 k3 k5 "ValueError.__new__") ∧ PySem.HandSPX.refsVE bm = true := by
  unfold oexIn at q
  split at q
  · rename_i dd cd sl ho
    split at q
    · rename_i C' bm k0 k1 k2 k3 n k5 hm hs
      simp only [Bool.and_eq_true, beq_iff_eq, Bool.not_eq_true'] at q
      obtain ⟨rfl, rfl, hdel, hd, hr⟩ := q
      obtain ⟨nm, bs, mro, ns, qn, hd', sn, sub, ab, col, del⟩ := cd
      dsimp only at hm hdel hd
      subst hm hdel hd
      have hsl : sl = #[k0, k1, k2, k3, some (.builtin "ValueError.__new__"), k5] := by
        obtain ⟨l⟩ := sl
        simp only at hs
        rw [hs]
      subst hsl
      exact ⟨nm, qn, ns, bs, bm, sn, sub, ab, col, dd, k0, k1, k2, k3, k5, ho, hr⟩
    · cases q
  · cases q
def oexB (C : Str) (K : Fr0) : Bool := oexIn K (ga K C) && (eqO (PySem.W.findIn K (.ref (ga K C)) "__setattr__") (some (some (.builtin "object.__setattr__"))) && (PySem.W.keepIn K (.ref (ga K C)) && (decide (PySem.W.subIn K (.ref (ga K C)) (.type "BaseException") = some true) && (decide (PySem.W.typeIn K (.ref (ga K C)) = some (.type "type")) &&
  (eqO (PySem.W.findIn K (.ref (ga K C)) "__init__") (some (some (.ref (pad K C "__init__")))) && decide (PySem.W.typeIn K (.ref (pad K C "__init__")) = some (.type "function")))))))
theorem oex_of {K : Fr0} {C : Str} (h : oexB C K = true) : OexC K (ga K C) ∧ PySem.W.findIn K (.ref (ga K C)) "__init__" = some (some (.ref (ma K (ga K C) "__init__"))) ∧ PySem.W.typeIn K (.ref (ma K (ga K C) "__init__")) = some (.type "function") := by
  obtain ⟨h1, h⟩ := ba h
  obtain ⟨h2, h⟩ := ba h
  obtain ⟨h3, h⟩ := ba h
  obtain ⟨h4, h⟩ := ba h
  obtain ⟨h5, h⟩ := ba h
  obtain ⟨h6, h7⟩ := ba h
  exact ⟨⟨oex_in h1, eqO_ok h2, of_decide_eq_true h4, of_decide_eq_true h5, h3⟩, eqO_ok h6, of_decide_eq_true h7⟩
/-- the class has no attribute of that name -/
def nofB (C f : Str) (K : Fr0) : Bool := decide (PySem.W.findIn K (.ref (ga K C)) f = some none)
def exmB (C c : Str) (b : Bool) (K : Fr0) : Bool := decide (PySem.W.exmOne K (.ref (ga K C)) (.ref (ga K c)) = some b)
def xfcB (C : Str) (K : Fr0) : Bool := xfB K (ga K C)
end DL

set_option Elab.async false
set_option linter.all false
set_option maxRecDepth 100000
set_option maxHeartbeats 4000000
namespace DL
open PySem PySem.Spec PyProof.Rows L2
open He (ga ma eqO eqO_ok ba)
/-! ### ranges as values -/
abbrev DTR := DSt → M → (Int → Int → M → Prop) → Prop
def upR (K : PySem.W.Frag) (W : WX) (WD : DWX) (t : DTR) : L2.St → Hp → (Int → Int → Hp → Prop) → Prop := fun σ H R => ∃ (G F : Hp) (r : DSt) (m : M) (QD : Int → Int → M → Prop), Sx K W WD G H F r σ m ∧ t r m QD ∧ ∀ G' H' m' a b, Same G G' → Rep K G' H' F m' → QD a b m' → R a b H'
abbrev DRg (X : Cx) (W : WX) (WD : DWX) (e : Expr) (t : DTR) : Prop := PRg X e (upR X.K W WD t)
theorem PRg.imp {X : Cx} {e : Expr} {t t' : L2.St → Hp → (Int → Int → Hp → Prop) → Prop} (h : PRg X e t) (i : ∀ σ H R, t' σ H R → t σ H R) : PRg X e t' := fun pins s σ H R I q => h pins s σ H R I (i σ H R q)
section
variable {X : Cx} {W : WX} {WD : DWX} {a b e tg : Expr} {ta tb : DTE} {tr : DTR} {p pos : Pos}
def drR1 (ta : DTE) : DTR := fun r m Q => ta r m fun d m1 => ∃ n, d = .int n ∧ Q 0 n m1
def drR2 (ta tb : DTE) : DTR := fun r m Q => ta r m fun d m1 => tb r m1 fun d2 m2 => ∃ i j, d = .int i ∧ d2 = .int j ∧ Q i j m2
theorem dr_1 (hg : Gl X "range") (hm : X.mg "range" = none) (ha : DE X W WD a ta) (na : starEach [a] X.env = (false, eval a X.env) :: starEach [] X.env := by rfl) : DRg X W WD (.Call (.Name "range" p) [a] [] pos) (drR1 ta) := by
  refine PRg.imp (prg_1 hg hm ha na) fun σ H R h => ?_
  obtain ⟨G, F, r, m, QD, x, t, k⟩ := h
  refine ⟨G, F, r, m, _, x, t, fun G1 H1 m1 d1 v1 e1 r1 p1 t1 => ?_⟩
  obtain ⟨n, rfl, q⟩ := t1
  cases p1
  exact ⟨n, rfl, k G1 H1 m1 0 n e1 r1 q⟩
theorem dr_2 (hg : Gl X "range") (hm : X.mg "range" = none) (ha : DE X W WD a ta) (hb : DE X W WD b tb) (na : starEach [a, b] X.env = (false, eval a X.env) :: starEach [b] X.env := by rfl) (nb : starEach [b] X.env = (false, eval b X.env) :: starEach [] X.env := by rfl) (hp : (backTo pos (starEach [b] X.env)).any (·.1) = false := by rfl) : DRg X W WD (.Call (.Name "range" p) [a, b] [] pos) (drR2 ta tb) := by
  refine PRg.imp (prg_2 hg hm ha hb na nb hp) fun σ H R h => ?_
  obtain ⟨G, F, r, m, QD, x, t, k⟩ := h
  refine ⟨G, F, r, m, _, x, t, fun G1 H1 m1 d1 v1 e1 r1 p1 t1 => ?_⟩
  refine ⟨G1, F, r, m1, _, x.step e1 r1, t1, fun G2 H2 m2 d2 v2 e2 r2 p2 t2 => ?_⟩
  obtain ⟨i, j, rfl, rfl, q⟩ := t2
  cases p1; cases p2
  exact ⟨i, j, rfl, rfl, k G2 H2 m2 i j (e1.trans e2) r2 q⟩
/-- from the end -/
def revD (lo : Int) (n : Nat) : List D := (List.range n).map fun (k : Nat) => D.int (lo + (n : Int) - 1 - (k : Int))
theorem revD_len (lo : Int) (n : Nat) : (revD lo n).length = n := by simp [revD]
theorem revD_at {lo : Int} {n i : Nat} {d : D} (h : (revD lo n)[i]? = some d) : d = .int (lo + (n : Int) - 1 - (i : Int)) ∧ i < n := by
  unfold revD at h
  rw [List.getElem?_map] at h
  by_cases hi : i < n
  · rw [List.getElem?_range hi] at h
    cases h
    exact ⟨rfl, hi⟩
  · rw [List.getElem?_eq_none (by simp; omega)] at h
    cases h
def diRv (tr : DTR) : DTI := fun r m Q => tr r m fun a b m1 => (-(2 ^ 62) ≤ a ∧ a < 2 ^ 62 ∧ -(2 ^ 62) ≤ b ∧ b < 2 ^ 62) ∧ Q (revD a (b - a).toNat) m1
theorem di_rev (hg : Gl X "reversed") (hm : X.mg "reversed" = none) (he : DRg X W WD e tr) (hs : starEach [e] X.env = (false, eval e X.env) :: starEach [] X.env := by rfl) : DI X W WD tg (.Call (.Name "reversed" p) [e] [] pos) (diRv tr) := by
  refine PI.imp (pi_revR hg hm he hs) fun σ H R h => ?_
  obtain ⟨G, F, r, m, QD, x, t, k⟩ := h
  refine ⟨G, F, r, m, _, x, t, fun G1 H1 m1 a b e1 r1 t1 => ?_⟩
  obtain ⟨⟨b1, b2, b3, b4⟩, t2⟩ := t1
  refine ⟨b1, b2, b3, b4, k G1 H1 m1 _ _ e1 r1 ⟨fun H e => ?_, fun i H hi e => ?_, fun i G1 H F m x H' d e rep hd y => ?_⟩ t2⟩
  · rw [revD_len]; exact Nat.le_refl _
  · rw [revD_len] at hi; exact hi
  · obtain ⟨rfl, rfl⟩ := y
    obtain ⟨rfl, _⟩ := revD_at hd
    refine ⟨G1, Same.refl G1, rep, ?_⟩
    have e : a + ((b - a).toNat : Int) - 1 + (i : Int) * -1 = a + ((b - a).toNat : Int) - 1 - (i : Int) := by omega
    rw [e]
    exact .int _
/-- list(range(..)) -/
def dListR (mt : Bool) (tr : DTR) : DTE := fun r m Q => tr r m fun a b m1 => RgOk a b ∧ mkL mt (rngD a (b - a).toNat) m1 Q
theorem rps_rng {K : PySem.W.Frag} {G : Hp} (a b : Int) : Rps K G (rngD a (b - a).toNat) (rgV a b) := by
  unfold rngD rgV
  generalize (b - a).toNat = n
  induction n with
  | zero => exact .nil
  | succ n ih =>
    rw [List.range_succ, List.map_append, List.map_append]
    exact ih.append (.cons (.int _) .nil)
theorem de_listR (mt : Bool) (hc : X.calm = true) (hg : Gl X "list") (hm : X.mg "list" = none) (he : DRg X W WD e tr) (na : starEach [e] X.env = (false, eval e X.env) :: starEach [] X.env := by rfl) : DE X W WD (.Call (.Name "list" p) [e] [] pos) (dListR mt tr) := by
  refine PE.imp (pe_listRg hc hg hm he na) fun σ H Q h => ?_
  obtain ⟨G, F, r, m, QD, x, t, k⟩ := h
  refine ⟨G, F, r, m, _, x, t, fun G1 H1 m1 a b e1 r1 t1 => ?_⟩
  exact ⟨t1.1, fun l hl => mkL_ok (k.mono e1) r1 (rps_rng a b) hl t1.2⟩
end
/-! ### C.f(..), f a staticmethod -/
structure SMet (K : PySem.W.Frag) (C : Addr) (m : Str) (p g : Addr) : Prop where
  rd : ClX.CRead K C (.type "type")
  at_ : PySem.W.findCls K (.ref C) (.type "type") m = some (.get (.builtin "staticmethod.__get__") (.ref p) .none (.ref C))
  rc : ∃ rest, PySem.W.recIn K p "staticmethod" = some (.ref g :: rest)
section
variable {X : Cx} {W : WX} {WD : DWX} {k : Nat} {C p g : Addr} {fd : FuncData} {ps : List Str} {sp : DSp} {x mn : Str} {np pos apos : Pos} {e : Expr} {es : List Expr} {t : DTA} {pl : Sem Bool}
theorem getsm_ok {pins : List (Addr × Obj)} {σ : L2.St} {H : Hp} {s : Shared} {A : Around} {E : Value → Shared → Prop} {b : Bool} {Q : Value → Shared → Prop} (I : Inv X pins σ H s) (k : SMet X.K C mn p g) (h : ∀ s', Inv X pins σ H s' → Q (.ref g) s') : wpAny (model X.prog X.w) A (getAttr (.ref C) mn b) Q E s := by
  obtain ⟨rest, hp⟩ := k.rc
  refine PySem.W.cls_bind I.kIn k.rd.rd k.at_ ?_
  refine wpAny_call (PySem.W.sm_get (s := { s with toks := s.toks + 1 }) I.kIn hp (PySem.W.handed_on rfl ?_))
  exact h _ (I.tok _)
theorem de_static (c : SMet X.K C mn p g) (hm : X.mg x = some (.ref C)) (hg : Gl X x) (F : FnOk X.prog X.w X.K X.mg X.base (L2.CX X.prog X.w) k g fd ps (liftSp X.K sp)) (hr : Room k X.A) (hk : PySem.W.keepIn X.K (.ref g) = true) (hb : Binds X.K fd ps []) (tk : Takes X W) (ha : DA X W WD (e :: es) t)
    (hdb : (x == ("__debug__" : Str)) = false := by decide) (hst : starEach (e :: es) X.env = (false, eval e X.env) :: starEach es X.env := by rfl) (hpl : (backTo pos (starEach es X.env)).any (·.1) = false := by rfl)
    (ht : eval (.Call (.Attribute (.Name x np) mn apos) (e :: es) [] pos) X.env = (do
      let ov ← eval (.Name x np) X.env
      standAt apos.atName
      let (f, first) ← holding [ov] (getMethod ov mn pl)
      callWith pos f first (backTo pos (starEach (e :: es) X.env)) (backToKw pos (keywordEach [] X.env))) := by rfl) :
    DE X W WD (.Call (.Attribute (.Name x np) mn apos) (e :: es) [] pos) (dCall sp WD [] t) := by
  refine PE.imp (t := fun σ H Q => upA X.K W WD t σ H fun vs H1 => liftSp X.K sp vs H1 Q (WE W σ)) ⟨fun pins s σ H Q I h => ?_⟩ fun σ H Q h => ?_
  · refine PySem.W.methodCall_KW (pl := pl) (ld_glob I hg hm ?_ hdb) ht
    refine PySem.W.method_cls I.kIn c.rd.ga (getsm_ok I c fun s2 I2 => ?_)
    refine PySem.W.callWith_K (h₀ := X.base) I2.ok.mod.kin hk (thn (ha.run pos pins s2 σ H _ I2 h) fun us s1 ⟨vs, H1, I1, r1, q1⟩ => ⟨I1.kIn, ?_⟩) hst hpl
    exact run_fnS (E := WE W) F hr hb (passAt tk σ) I1 r1 q1
  · obtain ⟨G, F, r, m, QD, x, t, k⟩ := h
    refine ⟨G, F, r, m, _, x, t, fun G1 H1 m1 ds vs e1 r1 p1 t1 => ?_⟩
    rw [List.append_nil] at t1
    exact lift_call (x.step e1 r1) p1 t1 (k.mono e1)
end
def smB (C m : Str) (K : Fr0) : Bool := PySem.W.readsIn K (ga K C) (.type "type") && (eqO (PySem.W.specialIn K (.ref (ga K C)) "__getattribute__") (some (some (.builtin "type.__getattribute__"))) && (match PySem.W.findCls K (.ref (ga K C)) (.type "type") m with
    | some (.get (.builtin g) (.ref p) .none (.ref D)) => decide (g = "staticmethod.__get__") && (decide (p = pad K C m) && decide (D = ga K C))
    | _ => false) && (match PySem.W.recIn K (pad K C m) "staticmethod" with
    | some (.ref _ :: _) => true
    | _ => false))
theorem sm_of {K : Fr0} {C m : Str} (h : smB C m K = true) : SMet K (ga K C) m (pad K C m) (wad K "staticmethod" C m) := by
  obtain ⟨h1, h⟩ := ba h
  obtain ⟨h2, h4⟩ := ba h
  obtain ⟨h2, h3⟩ := ba h2
  refine ⟨⟨h1, eqO_ok h2⟩, ?_, ?_⟩
  · split at h3
    · rename_i g p D e
      obtain ⟨k1, k⟩ := ba h3
      obtain ⟨k2, k3⟩ := ba k
      rw [e, of_decide_eq_true k1, of_decide_eq_true k2, of_decide_eq_true k3]
    · cases h3
  · unfold wad
    split at h4
    · rename_i f r e
      exact ⟨r, by rw [e]⟩
    · cases h4
/-! ### own + and own in -/
section
variable {X : Cx} {W : WX} {WD : DWX} {k : Nat} {f C : Addr} {fd : FuncData} {ps : List Str} {sp : DSp} {a b : Expr} {ta tb : DTE} {pos : Pos}
def dAddO (C : Addr) (sp : DSp) (WD : DWX) (ta tb : DTE) : DTE := fun r m Q => ta r m fun x m1 => tb r m1 fun y m2 => ∃ fs gs, insOf m2 x = some (C, fs) ∧ insOf m2 y = some (C, gs) ∧ sp [x, y] m2 (fun d m' => (∃ C fs, d = .ins C fs) ∧ Q d m') fun x m2 => WD x r m2
theorem de_addO (F : FnOk X.prog X.w X.K X.mg X.base (L2.CX X.prog X.w) k f fd ps (liftSp X.K sp)) (hs : PySem.W.findIn X.K (.ref C) "__add__" = some (some (.ref f))) (hf : PySem.W.isFn X.K (.ref f) = true) (hc : PySem.W.selfFirst X.K C = true) (hb : Binds X.K fd ps []) (hr : Room k X.A) (tk : Takes X W) (ha : DE X W WD a ta) (hbb : DE X W WD b tb) :
    DE X W WD (.BinOp a .Add b pos) (dAddO C sp WD ta tb) := by
  refine PE.imp (t := fun σ H Q => up X.K W WD ta σ H fun x H1 => up X.K W WD tb σ H1 fun y H2 => ∃ a c dx dy fs gs, x = .ref a ∧ y = .ref c ∧ H2 a = some (.ins C dx fs) ∧ H2 c = some (.ins C dy gs) ∧ liftSp X.K sp [x, y] H2 (fun v H' => (∃ p, v = .ref p) ∧ Q v H') (WE W σ)) ⟨fun pins s σ H Q I h => ?_⟩ fun σ H Q h => ?_
  · refine wpAny_BinOp (binT (R := fun x y H2 => ∃ a c dx dy fs gs, x = .ref a ∧ y = .ref c ∧ H2 a = some (.ins C dx fs) ∧ H2 c = some (.ins C dy gs) ∧ liftSp X.K sp [x, y] H2 (fun v H' => (∃ p, v = .ref p) ∧ Q v H') (WE W σ)) ha hbb I h fun v u s2 x y H2 I2 rx ry q => ?_)
    obtain ⟨a, c, dx, dy, fs, gs, rfl, rfl, h1, h2, hsp⟩ := q
    cases rx
    cases ry
    obtain ⟨mA, J, _⟩ := ins_get I2.hok h1
    obtain ⟨mB, J', _⟩ := ins_get I2.hok h2
    obtain ⟨od, J, _⟩ := J.look
    obtain ⟨od', J', _⟩ := J'.look
    obtain ⟨m, hF⟩ := I2.fr
    refine PySem.W.binop_K (op := .Add) hF I2.ok.mod.kin J J'.type hc hs hf ?_
    have r2 : Vals [V.ref a, V.ref c] [Value.ref a, Value.ref c] := .cons rfl (.cons rfl .nil)
    refine wpAny_mono (run_fnS (E := WE W) F hr hb (passAt tk σ) I2 r2 hsp) (fun w s' hq => ?_) fun _ _ e => e
    obtain ⟨z, H', I', rz, ⟨p, rfl⟩, q⟩ := hq
    cases rz
    exact ⟨.ref p, H', I', rfl, q⟩
  · obtain ⟨G, F, r, m, QD, x, t, k⟩ := h
    refine ⟨G, F, r, m, _, x, t, fun G1 H1 m1 d1 v1 e1 r1 p1 t1 => ?_⟩
    refine ⟨G1, F, r, m1, _, x.step e1 r1, t1, fun G2 H2 m2 d2 v2 e2 r2 p2 t2 => ?_⟩
    obtain ⟨fs, gs, i1, i2, hsp⟩ := t2
    have p1' := p1.mono e2
    obtain ⟨a, dx, fv, rfl, h1, _⟩ := ins_ok r2 p1' i1
    obtain ⟨c, dy, gv, rfl, h2, _⟩ := ins_ok r2 p2 i2
    refine ⟨a, c, dx, dy, fv, gv, rfl, rfl, h1, h2, ?_⟩
    refine lift_call (x.step (e1.trans e2) r2) (.cons p1' (.cons p2 .nil)) hsp fun G3 H3 m3 d v e3 rep3 p3 q3 => ?_
    obtain ⟨⟨C', fs', rfl⟩, q3⟩ := q3
    cases p3 with | ins g1 g2 => exact ⟨⟨_, rfl⟩, k G3 H3 m3 _ _ ((e1.trans e2).trans e3) rep3 (.ins g1 g2) q3⟩
/-- x in y by y's own __contains__ -/
def rInO (C : Addr) (sp : Sp) (b : Bool) : R2 := fun x y H Q => ∃ a dx fs, y = .ref a ∧ H a = some (.ins C dx fs) ∧ sp [y, x] H (fun v H' => ∃ c : Bool, v = .bl c ∧ Q (.bl (c != b)) H') E0
theorem op_inO {sp : Sp} (F : FnOk X.prog X.w X.K X.mg X.base (L2.CX X.prog X.w) k f fd ps sp) (hs : PySem.W.findIn X.K (.ref C) "__contains__" = some (some (.ref f))) (hf : PySem.W.isFn X.K (.ref f) = true) (hb : Binds X.K fd ps []) (hr : Room k X.A) : OpR X (compareOp .In) (rInO C sp false) := by
  intro pins s σ H x y v u Q I rx ry d
  obtain ⟨a, dx, fs, rfl, ha, hsp⟩ := d
  cases ry
  obtain ⟨mA, J, _⟩ := ins_get I.hok ha
  obtain ⟨od, J, _⟩ := J.look
  obtain ⟨m, hF⟩ := I.fr
  refine PySem.W.in_K hF I.ok.mod.kin J hs hf ?_
  have r2 : Vals [V.ref a, x] [Value.ref a, v] := .cons rfl (.cons rx .nil)
  refine wpAny_mono (run_fnS (E := fun _ => E0) F hr hb (fun pins H s e s' I c => passL (X := X) pins σ H s e s' I c) I r2 hsp) (fun w s' hq => ?_) fun _ _ e => e
  obtain ⟨z, H', I', rz, c, rfl, q⟩ := hq
  cases rz
  refine wpAny_truthy_bool ⟨.bl c, H', I', rfl, ?_⟩
  simpa using q
theorem op_notInO {sp : Sp} (F : FnOk X.prog X.w X.K X.mg X.base (L2.CX X.prog X.w) k f fd ps sp) (hs : PySem.W.findIn X.K (.ref C) "__contains__" = some (some (.ref f))) (hf : PySem.W.isFn X.K (.ref f) = true) (hb : Binds X.K fd ps []) (hr : Room k X.A) : OpR X (compareOp .NotIn) (rInO C sp true) := by
  intro pins s σ H x y v u Q I rx ry d
  obtain ⟨a, dx, fs, rfl, ha, hsp⟩ := d
  cases ry
  obtain ⟨mA, J, _⟩ := ins_get I.hok ha
  obtain ⟨od, J, _⟩ := J.look
  obtain ⟨m, hF⟩ := I.fr
  refine PySem.W.notIn_K hF I.ok.mod.kin J hs hf ?_
  have r2 : Vals [V.ref a, x] [Value.ref a, v] := .cons rfl (.cons rx .nil)
  refine wpAny_mono (run_fnS (E := fun _ => E0) F hr hb (fun pins H s e s' I c => passL (X := X) pins σ H s e s' I c) I r2 hsp) (fun w s' hq => ?_) fun _ _ e => e
  obtain ⟨z, H', I', rz, c, rfl, q⟩ := hq
  cases rz
  refine wpAny_truthy_bool ⟨.bl !c, H', I', rfl, ?_⟩
  simpa using q
def dInO (C : Addr) (sp : DSp) (b : Bool) : DR2 := fun x y m Q => ∃ fs, insOf m y = some (C, fs) ∧ sp [y, x] m (fun d m' => ∃ c : Bool, d = .bl c ∧ Q (.bl (c != b)) m') fun _ _ => False
theorem od_inO {K : PySem.W.Frag} {b : Bool} : OpD K (rInO C (liftSp K sp) b) (dInO C sp b) := by
  intro G H F m x y vx vy QD Q r px py t k
  obtain ⟨fs, e1, t⟩ := t
  obtain ⟨a, dx, fv, rfl, h1, _⟩ := ins_ok r py e1
  refine ⟨a, dx, fv, rfl, h1, G, F, m, [y, x], _, _, r, .cons py (.cons px .nil), t, fun G' H' m' d v e r' p q => ?_, fun _ _ _ _ _ _ _ _ _ q => q.elim⟩
  obtain ⟨c, rfl, q⟩ := q
  cases p
  exact ⟨c, rfl, k G' H' m' _ _ e r' (.bl _) q⟩
end
end DL

set_option Elab.async false
set_option linter.all false
set_option maxRecDepth 100000
set_option maxHeartbeats 4000000
namespace DL
open PySem PySem.Spec PyProof.Rows L2
/-! ### equality of clean data: ints, texts, None, lists and tuples of such -/
def clB : Nat → D → Bool
  | _, .non => true
  | _, .int _ => true
  | _, .str x => PyData.strOk x
  | n + 1, .lst xs => xs.all (clB n)
  | n + 1, .tup xs => xs.all (clB n)
  | _, _ => false
theorem cl_all {n : Nat} : ∀ {xs : List D}, (∀ x ∈ xs, ∃ p, toP x = some p ∧ p.canLay0 = true ∧ p.depth ≤ n) → ∃ ps, toPs xs = some ps ∧ PyData.canLayAll0 ps = true ∧ PyData.depthAll ps ≤ n
  | [], _ => ⟨[], by simp [toPs], rfl, by simp [PyData.depthAll]⟩
  | x :: xs, h => by
    obtain ⟨p, e, c, d⟩ := h x List.mem_cons_self
    obtain ⟨ps, e2, c2, d2⟩ := cl_all (xs := xs) fun y hy => h y (List.mem_cons_of_mem _ hy)
    refine ⟨p :: ps, by rw [toPs, e, e2]; rfl, ?_, ?_⟩
    · show (PyData.canLay0 p && PyData.canLayAll0 ps) = true
      rw [c, c2]; rfl
    · show max (PyData.depth p) (PyData.depthAll ps) ≤ n
      omega
theorem cl_toP : ∀ (n : Nat) (x : D), clB n x = true → ∃ p, toP x = some p ∧ p.canLay0 = true ∧ p.depth ≤ n
  | n, .non, _ => ⟨.none, by rw [toP], rfl, by simp [PyData.depth]⟩
  | n, .int i, _ => ⟨.int i, by rw [toP], rfl, by simp [PyData.depth]⟩
  | n, .str x, h => by
    refine ⟨.str x, by rw [toP], ?_, by simp [PyData.depth]⟩
    cases n <;> exact h
  | n + 1, .lst xs, h => by
    obtain ⟨ps, e, c, d⟩ := cl_all (n := n) fun x hx => cl_toP n x (List.all_eq_true.mp h x hx)
    exact ⟨.list ps, by rw [toP, e]; rfl, c, by show PyData.depthAll ps + 1 ≤ n + 1; omega⟩
  | n + 1, .tup xs, h => by
    obtain ⟨ps, e, c, d⟩ := cl_all (n := n) fun x hx => cl_toP n x (List.all_eq_true.mp h x hx)
    exact ⟨.tuple ps, by rw [toP, e]; rfl, c, by show PyData.depthAll ps + 1 ≤ n + 1; omega⟩
  | 0, .lst _, h => by cases h
  | 0, .tup _, h => by cases h
  | 0, .bl _, h => by cases h
  | 0, .ty _, h => by cases h
  | 0, .ref _, h => by cases h
  | 0, .rdl _, h => by cases h
  | 0, .ins _ _, h => by cases h
  | 0, .exn _ _ _, h => by cases h
  | n + 1, .bl _, h => by cases h
  | n + 1, .ty _, h => by cases h
  | n + 1, .ref _, h => by cases h
  | n + 1, .rdl _, h => by cases h
  | n + 1, .ins _ _, h => by cases h
  | n + 1, .exn _ _ _, h => by cases h
theorem toPs_cons {x : D} {xs : List D} {p : List PyData} (e : toPs (x :: xs) = some p) : ∃ a as, p = a :: as ∧ toP x = some a ∧ toPs xs = some as := by
  rw [toPs] at e
  cases e1 : toP x with
  | none => rw [e1] at e; cases e
  | some a =>
    rw [e1] at e
    cases e2 : toPs xs with
    | none => rw [e2] at e; cases e
    | some as => rw [e2] at e; cases e; exact ⟨a, as, rfl, rfl, rfl⟩
theorem cl_eqAll {n : Nat} (ih : ∀ (x y : D) (p q : PyData), clB n x = true → clB n y = true → toP x = some p → toP y = some q → (PyData.eqv p q = true ↔ x = y)) : ∀ (xs ys : List D) (ps qs : List PyData), xs.all (clB n) = true → ys.all (clB n) = true → toPs xs = some ps → toPs ys = some qs → (PyData.eqvAll ps qs = true ↔ xs = ys)
  | [], [], ps, qs, _, _, e1, e2 => by
    rw [toPs] at e1 e2; cases e1; cases e2
    exact ⟨fun _ => rfl, fun _ => by simp [PyData.eqvAll]⟩
  | [], y :: ys, ps, qs, _, _, e1, e2 => by
    rw [toPs] at e1; cases e1
    obtain ⟨a, as, rfl, _, _⟩ := toPs_cons e2
    simp [PyData.eqvAll]
  | x :: xs, [], ps, qs, _, _, e1, e2 => by
    rw [toPs] at e2; cases e2
    obtain ⟨a, as, rfl, _, _⟩ := toPs_cons e1
    simp [PyData.eqvAll]
  | x :: xs, y :: ys, ps, qs, c1, c2, e1, e2 => by
    obtain ⟨a, as, rfl, f1, f2⟩ := toPs_cons e1
    obtain ⟨b, bs, rfl, g1, g2⟩ := toPs_cons e2
    rw [List.all_cons, Bool.and_eq_true] at c1 c2
    have h1 := ih x y a b c1.1 c2.1 f1 g1
    have h2 := cl_eqAll ih xs ys as bs c1.2 c2.2 f2 g2
    rw [PyData.eqvAll, Bool.and_eq_true, h1, h2, List.cons.injEq]
theorem clB_ofLst {n : Nat} {xs : List D} (h : clB n (.lst xs) = true) : ∃ k, n = k + 1 ∧ xs.all (clB k) = true := by
  cases n with
  | zero => cases h
  | succ k => exact ⟨k, rfl, h⟩
theorem clB_ofTup {n : Nat} {xs : List D} (h : clB n (.tup xs) = true) : ∃ k, n = k + 1 ∧ xs.all (clB k) = true := by
  cases n with
  | zero => cases h
  | succ k => exact ⟨k, rfl, h⟩
theorem toP_lst {xs : List D} {p : PyData} (e : toP (.lst xs) = some p) : ∃ ps, p = .list ps ∧ toPs xs = some ps := by
  rw [toP] at e
  cases q : toPs xs with
  | none => rw [q] at e; cases e
  | some ps => rw [q] at e; cases e; exact ⟨ps, rfl, rfl⟩
theorem toP_tup {xs : List D} {p : PyData} (e : toP (.tup xs) = some p) : ∃ ps, p = .tuple ps ∧ toPs xs = some ps := by
  rw [toP] at e
  cases q : toPs xs with
  | none => rw [q] at e; cases e
  | some ps => rw [q] at e; cases e; exact ⟨ps, rfl, rfl⟩
theorem cl0 {x : D} (h : clB 0 x = true) : x = .non ∨ (∃ i, x = .int i) ∨ ∃ i, x = .str i := by
  cases x with
  | non => exact .inl rfl
  | int i => exact .inr (.inl ⟨i, rfl⟩)
  | str i => exact .inr (.inr ⟨i, rfl⟩)
  | _ => cases h
theorem cl_eqv : ∀ (n : Nat) (x y : D) (p q : PyData), clB n x = true → clB n y = true → toP x = some p → toP y = some q → (PyData.eqv p q = true ↔ x = y) := by
  intro n
  induction n with
  | zero =>
    intro x y p q c1 c2 e1 e2
    rcases cl0 c1 with rfl | ⟨i, rfl⟩ | ⟨i, rfl⟩ <;> rcases cl0 c2 with rfl | ⟨j, rfl⟩ | ⟨j, rfl⟩ <;> (rw [toP] at e1; rw [toP] at e2; cases e1; cases e2; simp [PyData.eqv])
  | succ n ih =>
    intro x y p q c1 c2 e1 e2
    cases x with
    | lst xs =>
      obtain ⟨ps, rfl, f1⟩ := toP_lst e1
      cases y with
      | lst ys =>
        obtain ⟨qs, rfl, f2⟩ := toP_lst e2
        have := cl_eqAll ih xs ys ps qs c1 c2 f1 f2
        rw [PyData.eqv, this, D.lst.injEq]
      | tup ys => obtain ⟨qs, rfl, f2⟩ := toP_tup e2; simp [PyData.eqv]
      | non => rw [toP] at e2; cases e2; simp [PyData.eqv]
      | int _ => rw [toP] at e2; cases e2; simp [PyData.eqv]
      | str _ => rw [toP] at e2; cases e2; simp [PyData.eqv]
      | _ => cases c2
    | tup xs =>
      obtain ⟨ps, rfl, f1⟩ := toP_tup e1
      cases y with
      | lst ys => obtain ⟨qs, rfl, f2⟩ := toP_lst e2; simp [PyData.eqv]
      | tup ys =>
        obtain ⟨qs, rfl, f2⟩ := toP_tup e2
        have := cl_eqAll ih xs ys ps qs c1 c2 f1 f2
        rw [PyData.eqv, this, D.tup.injEq]
      | non => rw [toP] at e2; cases e2; simp [PyData.eqv]
      | int _ => rw [toP] at e2; cases e2; simp [PyData.eqv]
      | str _ => rw [toP] at e2; cases e2; simp [PyData.eqv]
      | _ => cases c2
    | non =>
      rw [toP] at e1; cases e1
      cases y with
      | lst ys => obtain ⟨qs, rfl, f2⟩ := toP_lst e2; simp [PyData.eqv]
      | tup ys => obtain ⟨qs, rfl, f2⟩ := toP_tup e2; simp [PyData.eqv]
      | non => rw [toP] at e2; cases e2; simp [PyData.eqv]
      | int _ => rw [toP] at e2; cases e2; simp [PyData.eqv]
      | str _ => rw [toP] at e2; cases e2; simp [PyData.eqv]
      | _ => cases c2
    | int i =>
      rw [toP] at e1; cases e1
      cases y with
      | lst ys => obtain ⟨qs, rfl, f2⟩ := toP_lst e2; simp [PyData.eqv]
      | tup ys => obtain ⟨qs, rfl, f2⟩ := toP_tup e2; simp [PyData.eqv]
      | non => rw [toP] at e2; cases e2; simp [PyData.eqv]
      | int _ => rw [toP] at e2; cases e2; simp [PyData.eqv]
      | str _ => rw [toP] at e2; cases e2; simp [PyData.eqv]
      | _ => cases c2
    | str i =>
      rw [toP] at e1; cases e1
      cases y with
      | lst ys => obtain ⟨qs, rfl, f2⟩ := toP_lst e2; simp [PyData.eqv]
      | tup ys => obtain ⟨qs, rfl, f2⟩ := toP_tup e2; simp [PyData.eqv]
      | non => rw [toP] at e2; cases e2; simp [PyData.eqv]
      | int _ => rw [toP] at e2; cases e2; simp [PyData.eqv]
      | str _ => rw [toP] at e2; cases e2; simp [PyData.eqv]
      | _ => cases c2
    | _ => cases c1
/-- a mutable list as what it holds -/
def vD (m : M) : D → D
  | .ref a => match m a with
    | some (.lst xs) => .lst xs
    | _ => .ref a
  | d => d
theorem vD_ref {m : M} {a : Addr} {xs : List D} (h : m a = some (.lst xs)) : vD m (.ref a) = .lst xs := by
  show (match m a with | some (.lst xs) => D.lst xs | _ => D.ref a) = _
  rw [h]
theorem dat_vD {m : M} {n : Nat} {x : D} (c : clB n (vD m x) = true) : ∃ p, datOf m x = some p ∧ toP (vD m x) = some p ∧ p.canLay0 = true ∧ p.depth ≤ n := by
  obtain ⟨p, e, c1, d1⟩ := cl_toP n _ c
  refine ⟨p, ?_, e, c1, d1⟩
  cases x with
  | ref a =>
    cases q : m a with
    | none =>
      have : vD m (.ref a) = .ref a := by show (match m a with | some (.lst xs) => D.lst xs | _ => D.ref a) = _; rw [q]
      rw [this] at c
      cases n <;> cases c
    | some o =>
      cases o with
      | lst xs =>
        rw [vD_ref q, toP] at e
        dsimp only [datOf]
        rw [q]
        exact e
      | _ =>
        have : vD m (.ref a) = .ref a := by show (match m a with | some (.lst xs) => D.lst xs | _ => D.ref a) = _; rw [q]
        rw [this] at c
        cases n <;> cases c
  | _ => exact e
theorem eqB_data {x y : D} {b : Bool} (h : dEqB x y = some b) : b = true ↔ x = y := by
  cases x <;> cases y <;> first
    | (cases h; done)
    | (cases h; simp)
theorem eqB_vD {m : M} {x y : D} {b : Bool} (h : dEqB x y = some b) : vD m x = x ∧ vD m y = y := by
  cases x <;> cases y <;> first
    | (cases h; done)
    | exact ⟨rfl, rfl⟩
section
variable {m : M} {n : Nat} {x y : D} {Q : D → M → Prop}
theorem dEq_data (hn : n ≤ 64) (c1 : clB n (vD m x) = true) (c2 : clB n (vD m y) = true) (h : ∀ b : Bool, (b = true ↔ vD m x = vD m y) → Q (.bl b) m) : dEq x y m Q := by
  unfold dEq
  cases e : dEqB x y with
  | some b =>
    obtain ⟨h1, h2⟩ := eqB_vD (m := m) e
    exact h b (by rw [h1, h2]; exact eqB_data e)
  | none =>
    obtain ⟨p, e1, f1, l1, d1⟩ := dat_vD c1
    obtain ⟨q, e2, f2, l2, d2⟩ := dat_vD c2
    refine ⟨p, q, e1, e2, ?_, ?_, h _ (cl_eqv n _ _ p q c1 c2 f1 f2)⟩
    · unfold SeqAt.shaped; rw [l1, decide_eq_true (by omega)]; rfl
    · unfold SeqAt.shaped; rw [l2, decide_eq_true (by omega)]; rfl
theorem dNe_data (hn : n ≤ 64) (c1 : clB n (vD m x) = true) (c2 : clB n (vD m y) = true) (h : ∀ b : Bool, (b = true ↔ vD m x = vD m y) → Q (.bl !b) m) : dNe x y m Q := by
  unfold dNe
  cases e : dEqB x y with
  | some b =>
    obtain ⟨h1, h2⟩ := eqB_vD (m := m) e
    exact h b (by rw [h1, h2]; exact eqB_data e)
  | none =>
    obtain ⟨p, e1, f1, l1, d1⟩ := dat_vD c1
    obtain ⟨q, e2, f2, l2, d2⟩ := dat_vD c2
    refine ⟨p, q, e1, e2, ?_, ?_, h _ (cl_eqv n _ _ p q c1 c2 f1 f2)⟩
    · unfold SeqAt.shaped; rw [l1, decide_eq_true (by omega)]; rfl
    · unfold SeqAt.shaped; rw [l2, decide_eq_true (by omega)]; rfl
/-- of one and the same -/
theorem dEq_same (hn : n ≤ 64) (c1 : clB n x = true) (hx : vD m x = x) (h : Q (.bl true) m) : dEq x x m Q :=
  dEq_data hn (by rw [hx]; exact c1) (by rw [hx]; exact c1) fun b hb => by rw [hb.mpr rfl]; exact h
theorem dNe_same (hn : n ≤ 64) (c1 : clB n x = true) (hx : vD m x = x) (h : Q (.bl false) m) : dNe x x m Q :=
  dNe_data hn (by rw [hx]; exact c1) (by rw [hx]; exact c1) fun b hb => by rw [hb.mpr rfl]; exact h
end
theorem cl_ints {n : Nat} (ns : List Int) : (ns.map D.int).all (clB n) = true := by
  rw [List.all_map, List.all_eq_true]
  intro x _
  cases n <;> rfl
theorem cl_il {n : Nat} (ns : List Int) : clB (n + 1) (.lst (ns.map D.int)) = true := cl_ints ns
/-- [te for x in a list of ints], nothing changed -/
theorem lc_ints {i : Nat} {vs : List Nat} {te : DTE} {r : DSt} {m : M} {ns : List Int} {Q : List D → M → Prop} (f : Int → D) (hz : ns.length ≤ sizeLine) (h : ∀ n ∈ ns, ∀ Q' : D → M → Prop, Q' (f n) m → te ((wipeD r vs).set i (some (.int n))) m Q') (q : Q (ns.map f) m) : dLcL (.one i) vs dYes te (ns.map D.int) [] r m Q := by
  refine lc_pure (fun x => match x with | .int j => f j | _ => .non) (by simpa using hz) (fun x hx => ?_) ?_
  · obtain ⟨n, hn, rfl⟩ := List.mem_map.mp hx
    exact ⟨_, rfl, fun Q' q' => h n hn Q' q'⟩
  · rw [List.nil_append, List.map_map]
    exact q
end DL

set_option Elab.async false
set_option linter.all false
set_option maxRecDepth 100000
set_option maxHeartbeats 4000000
namespace DL
open PySem PySem.Spec PyProof.Rows L2
open He (ga ma eqO eqO_ok ba)
/-! ### for c in text; enumerate(list) -/
def chars (z : Str) : List D := z.cps.toList.map fun c => D.str ⟨#[c]⟩
theorem chars_len (z : Str) : (chars z).length = z.cps.size := by simp [chars]
theorem it_str {K : PySem.W.Frag} {G : Hp} (z : Str) : ItD K (Its z) G (chars z) where
  stop := fun H e => by rw [chars_len]; exact Nat.le_refl _
  go := fun i H hi e => by rw [chars_len] at hi; exact hi
  yld := fun i G1 H F m x H' d e rep hd y => by
    obtain ⟨rfl, c, hc, rfl⟩ := y
    unfold chars at hd
    rw [List.getElem?_map] at hd
    have : z.cps.toList[i]? = some c := by simpa using hc
    rw [this] at hd
    cases hd
    exact ⟨G1, Same.refl G1, rep, .str _⟩
def enumD (ds : List D) : List D := ds.zipIdx.map fun p => .tup [.int (p.2 : Nat), p.1]
theorem enumD_len (ds : List D) : (enumD ds).length = ds.length := by simp [enumD]
theorem enumD_at {ds : List D} {i : Nat} {d : D} (h : (enumD ds)[i]? = some d) : ∃ x, ds[i]? = some x ∧ d = .tup [.int (i : Nat), x] := by
  unfold enumD at h
  rw [List.getElem?_map] at h
  cases q : ds.zipIdx[i]? with
  | none => rw [q] at h; cases h
  | some p =>
    rw [q] at h
    cases h
    rw [List.getElem?_zipIdx] at q
    cases q2 : ds[i]? with
    | none => rw [q2] at q; cases q
    | some x =>
      rw [q2] at q
      cases q
      exact ⟨x, rfl, by simp⟩
theorem it_enum {K : PySem.W.Frag} {G : Hp} {a : Addr} {vs : List V} {ds : List D} (h : SqL K G a vs) (r : Rps K G ds vs) : ItD K (Ite K a) G (enumD ds) where
  stop := fun H e => ⟨vs, e.seq h, by rw [enumD_len, r.length]; exact Nat.le_refl _⟩
  go := fun i H hi e => by
    rw [enumD_len] at hi
    have hv : i < vs.length := by rw [← r.length]; exact hi
    exact ⟨vs, vs[i], e.seq h, by simp [hv]⟩
  yld := fun i G1 H F m x H' d e rep hd y => by
    obtain ⟨T, v, rfl, hT, rfl, hy⟩ := y
    obtain ⟨u, hu, rfl⟩ := enumD_at hd
    obtain ⟨w, h1, h2⟩ := r.get hu
    have q := hy vs ((e.trans rep.ext).seq h)
    rw [h1] at q
    cases q
    obtain ⟨e2, r2⟩ := rep.froz (o := .tup [.int (i : Nat), v]) hT
    exact ⟨_, e2, r2, .tup (SqT.of upd_same) (.cons (.int _) (.cons (h2.mono (e.trans e2)) .nil))⟩
section
variable {X : Cx} {W : WX} {WD : DWX} {tg : Expr}
def diS (te : DTE) : DTI := fun r m Q => te r m fun d m1 => match d with
  | .str z => Q (chars z) m1
  | _ => False
theorem di_str {l : Expr} {te : DTE} (hl : DE X W WD l te) : DI X W WD tg l (diS te) := by
  refine PI.imp (pi_str hl) fun σ H R h => ?_
  obtain ⟨G, F, r, m, QD, x, t, k⟩ := h
  refine ⟨G, F, r, m, _, x, t, fun G1 H1 m1 d1 v1 e1 r1 p1 t1 => ?_⟩
  cases d1 with
  | str z => cases p1; exact ⟨_, rfl, k G1 H1 m1 _ _ e1 r1 (it_str z) t1⟩
  | _ => exact t1.elim
def diE (ta : DTA) : DTI := fun r m Q => ta r m fun ds m1 => match ds with
  | [.lst xs] => Q (enumD xs) m1
  | [.rdl xs] => Q (enumD xs) m1
  | _ => False
theorem di_enum {e : Expr} {ta : DTA} {p pos tpos : Pos} {elts : List Expr} {kk : Nat} (hg : Gl X "enumerate") (hm : X.mg "enumerate" = none) (ha : DA X W WD [e] ta) (hs : starEach [e] X.env = [(false, eval e X.env)] := by rfl) : DI X W WD (.Tuple elts kk tpos) (.Call (.Name "enumerate" p) [e] [] pos) (diE ta) := by
  refine PI.imp (pi_enum hg hm ha hs) fun σ H R h => ?_
  obtain ⟨G, F, r, m, QD, x, t, k⟩ := h
  refine ⟨G, F, r, m, _, x, t, fun G1 H1 m1 ds vs e1 r1 p1 t1 => ?_⟩
  match ds, t1 with
  | [.lst xs], t1 =>
    obtain ⟨v, rfl, q⟩ := rps1 p1
    cases q with | lst h1 q1 => exact ⟨_, _, rfl, SqL.of (r1.ext _ _ h1), k G1 H1 m1 _ _ e1 r1 (it_enum (SqL.of h1) q1) t1⟩
  | [.rdl xs], t1 =>
    obtain ⟨v, rfl, q⟩ := rps1 p1
    cases q with | rdl h1 q1 => exact ⟨_, _, rfl, r1.ext.seq h1, k G1 H1 m1 _ _ e1 r1 (it_enum h1 q1) t1⟩
end
/-! ### f-strings -/
section
variable {X : Cx} {W : WX} {WD : DWX}
def dFmt (te : DTE) : DTE := fun r m Q => te r m fun d m1 => match d with
  | .str y => y.length ≤ sizeLine ∧ Q (.str y) m1
  | .int i => i.natAbs.log2 < 1920 ∧ Q (.str (toString i)) m1
  | _ => False
theorem de_fmt {e : Expr} {te : DTE} {pos : Pos} (he : DE X W WD e te) : DE X W WD (.FormattedValue e (-1) none pos) (dFmt te) := by
  refine PE.imp (pe_fmt he) fun σ H Q h => ?_
  obtain ⟨G, F, r, m, QD, x, t, k⟩ := h
  refine ⟨G, F, r, m, _, x, t, fun G1 H1 m1 d1 v1 e1 r1 p1 t1 => ?_⟩
  cases d1 with
  | str y => cases p1; exact .inl ⟨y, rfl, t1.1, k G1 H1 m1 _ _ e1 r1 (.str _) t1.2⟩
  | int i => cases p1; exact .inr ⟨i, rfl, t1.1, k G1 H1 m1 _ _ e1 r1 (.str _) t1.2⟩
  | _ => exact t1.elim
def dJs : List DTE → Str → DSt → M → (Str → M → Prop) → Prop
  | [], acc, _, m, Q => Q acc m
  | t :: ts, acc, r, m, Q => t r m fun d m1 => ∃ y : Str, d = .str y ∧ (acc ++ y).length ≤ sizeLine ∧ dJs ts (acc ++ y) r m1 Q
def dFStr (ts : List DTE) : DTE := fun r m Q => dJs ts Str.empty r m fun out m1 => Q (.str out) m1
inductive DJ (X : Cx) (W : WX) (WD : DWX) : List Expr → List DTE → Prop where
  | nil : DJ X W WD [] []
  | cons {e : Expr} {t : DTE} {es : List Expr} {ts : List DTE} (h : DE X W WD e t) (r : DJ X W WD es ts) : DJ X W WD (e :: es) (t :: ts)
theorem DJ.pj {es : List Expr} {ts : List DTE} (h : DJ X W WD es ts) : PJ X es (ts.map (up X.K W WD)) := by
  induction h with
  | nil => exact .nil
  | cons h _ ih => exact .cons h ih
theorem js_ok {K : PySem.W.Frag} {F : Hp} {σ : L2.St} {r : DSt} {Q : VK} {QD : D → M → Prop} : ∀ (ts : List DTE) (acc : Str) (G H : Hp) (m : M), Sx K W WD G H F r σ m → Kv K G F QD Q → dJs ts acc r m (fun out m1 => QD (.str out) m1) → tJs (ts.map (up K W WD)) acc σ H fun out H1 => Q (.str out) H1
  | [], acc, G, H, m, x, k, t => k G H m _ _ (Same.refl G) x.rep (.str _) t
  | t :: ts, acc, G, H, m, x, k, h => by
    refine ⟨G, F, r, m, _, x, h, fun G1 H1 m1 d1 v1 e1 r1 p1 t1 => ?_⟩
    obtain ⟨y, rfl, hz, t2⟩ := t1
    cases p1
    exact ⟨y, rfl, hz, js_ok ts (acc ++ y) G1 H1 m1 (x.step e1 r1) (k.mono e1) t2⟩
theorem de_fstr {v1 v2 : Expr} {rest : List Expr} {ts : List DTE} {pos : Pos} (h : DJ X W WD (v1 :: v2 :: rest) ts) : DE X W WD (.JoinedStr (v1 :: v2 :: rest) pos) (dFStr ts) := by
  refine PE.imp (pe_joined h.pj) fun σ H Q h => ?_
  obtain ⟨G, F, r, m, QD, x, t, k⟩ := h
  exact js_ok ts Str.empty G H m x k t
theorem de_fstr1 {e : Expr} {te : DTE} {pos : Pos} (he : DE X W WD e te) : DE X W WD (.JoinedStr [e] pos) te := pe_joined1 he
end
/-! ### calls with keywords; defaults -/
section
variable {K : PySem.W.Frag} {x qual : Str} {params : Arguments} {body : List Stmt} {scope : Scope} {dvs : List V} {kws : List (Str × V)} {f : Addr} {fd : FuncData} {ps : List Str}
/-- every parameter is written, the last ones by keywords (no positional defaults) -/
theorem kbn_all (F : FunD K x qual params body scope [] kws f fd) (n : Nat) (ks : List Str)
    (h : ∀ (kV doc pm : Value) (an : Option Addr) (cdv ct : Value) (us ws : List Value), us.length = n → ws.length = ks.length → bindArgs (PySem.W.fnOf x qual params body scope .none kV doc pm an cdv ct) ⟨us, ks.zip ws⟩ = pure (ps.zip (us ++ ws))) : KBn K fd ps n ks (fun us ws => us ++ ws) (fun vs zs => vs ++ zs) := by
  obtain ⟨oc, od, dV, kV, doc, pm, an, cdv, ct, osl, rfl, lk, hcd, hD, hK⟩ := F.ex
  rcases hD with ⟨_, rfl⟩ | ⟨e, _⟩
  · exact ⟨fun s us ws X l1 l2 => .of_eq (h kV doc pm an cdv ct us ws l1 l2), fun r1 r2 => r1.append r2⟩
  · exact absurd rfl e
end
/-- a def with keyword-only parameters ks behind n others: called with all of them, or with none (dds: their defaults) -/
structure GoodK (P : Program) (w : World) (K : Fr0) (mg : Str → Option Value) (base : Heap) (k : Nat) (x : Option Str) (f : Addr) (ps : List Str) (sp : DSp) (n : Nat) (ks : List Str) (dds : List D) : Prop where
  ex : ∃ fd, FnOk P w K mg base (L2.CX P w) k f fd ps (liftSp K sp) ∧ PySem.W.keepIn K (.ref f) = true ∧ KBn K fd ps n ks (fun us ws => us ++ ws) (fun vs zs => vs ++ zs) ∧ ∃ ds dvs, Vals dvs ds ∧ Binds K fd ps ds ∧ ∀ G, Rps K G dds dvs
  gl : match x with
    | some x => mg x = some (.ref f)
    | none => True
/-- a def with defaults for its last parameters: called with all of them, or without these -/
structure GoodD (P : Program) (w : World) (K : Fr0) (mg : Str → Option Value) (base : Heap) (k : Nat) (x : Option Str) (f : Addr) (ps : List Str) (sp : DSp) (dds : List D) : Prop where
  ex : ∃ fd, FnOk P w K mg base (L2.CX P w) k f fd ps (liftSp K sp) ∧ PySem.W.keepIn K (.ref f) = true ∧ Binds K fd ps [] ∧ ∃ ds dvs, Vals dvs ds ∧ Binds K fd ps ds ∧ ∀ G, Rps K G dds dvs
  gl : match x with
    | some x => mg x = some (.ref f)
    | none => True
section
variable {X : Cx} {W : WX} {WD : DWX} {k n : Nat} {f : Addr} {fd : FuncData} {ps ks : List Str} {sp : DSp} {x : Str} {p pos kpos : Pos} {e : Expr} {es : List Expr} {kws : List Keyword} {t tk : DTA} {te : DTE} {nm : Option Str} {g : List Value → List Value → List Value} {gV : List V → List V → List V}
abbrev DK (X : Cx) (W : WX) (WD : DWX) (kws : List Keyword) (t : DTA) : Prop := PK X kws (upA X.K W WD t)
theorem PK.imp {t t' : TA} (h : PK X kws t) (i : ∀ σ H Q, t' σ H Q → t σ H Q) : PK X kws t' := ⟨fun pos pins s σ H Q I q => h.run pos pins s σ H Q I (i σ H Q q)⟩
theorem dk_nil : DK X W WD [] daNil := by
  refine PK.imp pk_nil fun σ H Q h => ?_
  obtain ⟨G, F, ρ, m, QD, x, t, k⟩ := h
  exact k G H m [] [] (Same.refl G) x.rep .nil t
theorem dk_cons (ha : DE X W WD e te) (hr : DK X W WD kws t) : DK X W WD (⟨nm, e, kpos⟩ :: kws) (daCons te t) := by
  refine PK.imp (pk_cons ha hr) fun σ H Q h => ?_
  obtain ⟨G, F, ρ, m, QD, x, t, k⟩ := h
  refine ⟨G, F, ρ, m, _, x, t, fun G1 H1 m1 d1 v1 e1 r1 p1 t1 => ?_⟩
  exact ⟨G1, F, ρ, m1, _, x.step e1 r1, t1, fun G2 H2 m2 ds vs e2 r2 p2 t2 => k G2 H2 m2 (d1 :: ds) (v1 :: vs) (e1.trans e2) r2 (.cons (p1.mono e2) p2) t2⟩
/-- f(e, .., k = v, ..): the keywords' values behind the others -/
def dCallN (n j : Nat) (sp : DSp) (WD : DWX) (t tk : DTA) : DTE := fun r m Q => t r m fun ds m1 => tk r m1 fun zs m2 => ds.length = n ∧ zs.length = j ∧ sp (ds ++ zs) m2 Q fun x m3 => WD x r m3
theorem run_fnNS {CX : CXT} {sp : Sp} {E : XK} {pins : List (Addr × Obj)} {σ : L2.St} {H : Hp} {s : Shared} {Q : VK} {us ws : List Value} {vs zs : List V} (F : FnOk X.prog X.w X.K X.mg X.base CX k f fd ps sp) (hr : Room k X.A) (hb : KBn X.K fd ps n ks g gV) (hx : PassesAt CX X σ E)
    (I : Inv X pins σ H s) (r : Vals vs us) (rz : Vals zs ws) (l1 : vs.length = n) (l2 : zs.length = ks.length) (h : sp (gV vs zs) H Q E) : wpAny (model X.prog X.w) X.A (call (.ref f) us (ks.zip ws)) (EP X pins σ Q) X.xe s := by
  have r2 := hb.rel r rz
  refine wpAny_call (codeAny_mono (F.run X.A X.stack s H ⟨us, ks.zip ws⟩ (g us ws) (gV vs zs) Q E hr I.env0 (hb.to s us ws I.kIn (r.length.symm.trans l1) (rz.length.symm.trans l2)) r2 h) fun r s' hq => ?_)
  cases r with
  | error e => exact hx pins H s e s' I hq
  | ok fl =>
    cases fl with
    | ret u => exact I.after hq
    | next => exact False.elim hq
    | brk => exact False.elim hq
    | cont => exact False.elim hq
theorem de_callN {j : Nat} (F : FnOk X.prog X.w X.K X.mg X.base (L2.CX X.prog X.w) k f fd ps (liftSp X.K sp)) (hr : Room k X.A) (hg : Gl X x) (hm : X.mg x = some (.ref f)) (hk : PySem.W.keepIn X.K (.ref f) = true) (hb : KBn X.K fd ps n ks (fun us ws => us ++ ws) (fun vs zs => vs ++ zs)) (tk' : Takes X W)
    (ha : DA X W WD (e :: es) t) (hkw : DK X W WD kws tk) (hall : (backToKw pos (keywordEach kws X.env)).all (·.1.isSome) = true := by rfl) (hks : (backToKw pos (keywordEach kws X.env)).filterMap (·.1) = ks := by rfl)
    (hdb : (x == ("__debug__" : Str)) = false := by decide) (he : starEach (e :: es) X.env = (false, eval e X.env) :: starEach es X.env := by rfl)
    (hpl : ((backTo pos (starEach (e :: es) X.env)).any (·.1) || (backToKw pos (keywordEach kws X.env)).any (·.1.isNone)) = false := by rfl) (hj : ks.length = j := by rfl) :
    DE X W WD (.Call (.Name x p) (e :: es) kws pos) (dCallN n j sp WD t tk) := by
  subst hj
  refine PE.imp (t := fun σ H Q => upA X.K W WD t σ H fun vs H1 => upA X.K W WD tk σ H1 fun zs H2 => vs.length = n ∧ zs.length = ks.length ∧ liftSp X.K sp (vs ++ zs) H2 Q (WE W σ)) ⟨fun pins s σ H Q I h => ?_⟩ fun σ H Q h => ?_
  · refine wpAny_Call_Name_kw (ld_glob I hg hm ?_ hdb)
    refine PySem.W.callWith_KW (h₀ := X.base) I.ok.mod.kin hk hall (thn (ha.run pos pins s σ H _ I h) fun us s1 ⟨vs, H1, I1, r, q⟩ => ?_) hpl he
    refine thn (hkw.run pos pins s1 σ H1 _ I1 q) fun ws s2 ⟨zs, H2, I2, rz, l1, l2, q2⟩ => ⟨I2.kIn, ?_⟩
    rw [hks]
    exact run_fnNS F hr hb (passAt tk' σ) I2 r rz l1 l2 q2
  · obtain ⟨G, F, r, m, QD, x, t, k⟩ := h
    refine ⟨G, F, r, m, _, x, t, fun G1 H1 m1 ds vs e1 r1 p1 t1 => ?_⟩
    refine ⟨G1, F, r, m1, _, x.step e1 r1, t1, fun G2 H2 m2 zs ws e2 r2 p2 t2 => ?_⟩
    obtain ⟨l1, l2, t2⟩ := t2
    exact ⟨by rw [← p1.length]; exact l1, by rw [← p2.length]; exact l2, lift_call (x.step (e1.trans e2) r2) ((p1.mono e2).append p2) t2 (k.mono (e1.trans e2))⟩
end
/-- an empty tuple of the written part -/
def tup0B (ad : Fr0 → Addr) (K : Fr0) : Bool := match K.lookup (ad K) with
  | some ⟨.type "tuple", _, .seq its _, _⟩ => its.size == 0
  | _ => false
theorem tup0_of {ad : Fr0 → Addr} {K : Fr0} (h : tup0B ad K = true) (G : Hp) : Rps K G [.tup []] [.ref (ad K)] := by
  unfold tup0B at h
  split at h
  · rename_i od its n sl e
    have hz : its.size = 0 := by simpa using h
    have : its.toList = [] := by
      have : its.toList.length = 0 := by simpa using hz
      exact List.eq_nil_of_length_eq_zero this
    refine .cons (.tup (vs := []) (.inr ⟨_, its, n, e, rfl, rfl, by rw [hz]; exact Nat.zero_le _, ?_⟩) .nil) .nil
    rw [this]
    exact .nil
  · cases h
end DL

set_option Elab.async false
set_option linter.all false
set_option maxRecDepth 100000
set_option maxHeartbeats 4000000
namespace DL
open PySem PySem.Spec PyProof.Rows L2
/-- a mutable list goes into the frame for a while -/
theorem Rep.lend {K : PySem.W.Frag} {G H F : Hp} {m : M} {a : Addr} {xs : List D} (r : Rep K G H F m) (h : m a = some (.lst xs)) : ∃ vs, F a = none ∧ Rps K G xs vs ∧ Rep K G H (upd F a (.lst vs)) (mdel m a) := by
  obtain ⟨g1, f1, w, h3, h4⟩ := r.mo a _ h
  obtain ⟨vs, rfl, h4⟩ := h4.ofLst
  refine ⟨vs, f1, h4, r.ext, fun b v e => ?_, fun b v e => ?_, fun b v e => ?_⟩
  · by_cases hb : b = a
    · subst hb; rw [upd_same] at e; rw [← e]; exact h3
    · rw [upd_ne hb] at e; exact r.frm b v e
  · by_cases hb : b = a
    · subst hb; exact g1
    · rw [upd_ne hb] at e; exact r.dis b v e
  · by_cases hb : b = a
    · subst hb; rw [mdel_same] at e; cases e
    · rw [mdel_ne hb] at e
      obtain ⟨h1, h2, u, h5, h6⟩ := r.mo b v e
      exact ⟨h1, by rw [upd_ne hb]; exact h2, u, h5, h6⟩
theorem upd_comm {H : Hp} {a b : Addr} {o u : HO} (h : a ≠ b) : upd (upd H a o) b u = upd (upd H b u) a o := by
  funext c
  unfold upd
  by_cases e : c = a
  · subst e; rw [if_neg h, if_pos rfl, if_pos rfl]
  · by_cases e2 : c = b
    · subst e2; rw [if_pos rfl, if_neg e, if_pos rfl]
    · rw [if_neg e2, if_neg e, if_neg e, if_neg e2]
/-- [te for x in a mutable list, that the block leaves alone] -/
def dLcM (mt : Bool) (ti : DTE) (c : CT) (vs : List Nat) (tt : DTT) (te : DTE) : DTE := fun r m Q => ti r m fun d m1 => ∃ a xs, d = .ref a ∧ m1 a = some (.lst xs) ∧ dLcL c vs tt te xs [] r (mdel m1 a) fun acc m2 => m2 a = none → mkL mt acc (mset m2 a (.lst xs)) Q
section
variable {X : Cx} {W : WX} {WD : DWX}
theorem lc_upM {K : PySem.W.Frag} {ti : DTE} {c : CT} {vs : List Nat} {tt : DTT} {te : DTE} {mt : Bool} {σ : L2.St} {H : Hp} {Q : VK} (hc : c.in vs) (h : up K W WD (dLcM mt ti c vs tt te) σ H Q) : tLc (fun σ H R => up K W WD ti σ H fun v H1 => ∃ a, v = .ref a ∧ (∃ xs, SqL K H1 a xs) ∧ R (Itl K a) H1) (ctG K c) (upT K W0 WD0 tt) (up K W0 WD0 te) vs σ H Q := by
  obtain ⟨G, F, r, m, QD, x, t, k⟩ := h
  refine ⟨G, F, r, m, _, x, t, fun G1 H1 m1 d1 v1 e1 r1 p1 t1 => ?_⟩
  obtain ⟨a, xs, rfl, hm, t1⟩ := t1
  cases p1
  obtain ⟨us, hFa, rxs, r1'⟩ := r1.lend hm
  have ha1 : H1 a = some (.lst us) := r1'.frm a _ upd_same
  refine ⟨a, rfl, ⟨us, SqL.of ha1⟩, ?_⟩
  intro Dl hD
  have hF : (upd F a (.lst us)) Dl = none := r1'.frm.free hD
  have hDa : Dl ≠ a := fun z => by subst z; rw [ha1] at hD; cases hD
  refine ⟨fun i n H => n = xs.length - i ∧ i ≤ xs.length ∧ ∃ G2 m2 acc va, Same G1 G2 ∧ Rep K G2 H (upd (upd F a (.lst us)) Dl (.lst va)) m2 ∧ Rps K G2 acc va ∧ dLcL c vs tt te (xs.drop i) acc r m2 (fun acc m => m a = none → mkL mt acc (mset m a (.lst xs)) QD), ⟨xs.length, rfl, Nat.zero_le _, G1, _, [], [], Same.refl G1, r1'.hide hD, .nil, t1⟩, ?_⟩
  rintro i n H2 ⟨rfl, hi, G2, m2, acc, va, e2, rep2, ra, t2⟩
  have ha2 : H2 a = some (.lst us) := rep2.frm a _ (by rw [upd_ne (fun z => hDa z.symm), upd_same])
  by_cases hlt : i < xs.length
  · have hdrop : xs.drop i = xs[i] :: xs.drop (i + 1) := (List.getElem_cons_drop hlt).symm
    rw [hdrop] at t2
    obtain ⟨r2, ec, t2⟩ := t2
    have hv : i < us.length := by rw [← rxs.length]; exact hlt
    refine .inr ⟨⟨us, us[i], SqL.of ha2, by simp [hv]⟩, fun H3 => ∃ G3 m3 acc va, Same G1 G3 ∧ Rep K G3 H3 (upd (upd F a (.lst us)) Dl (.lst va)) m3 ∧ Rps K G3 acc va ∧ dLcL c vs tt te (xs.drop (i + 1)) acc r m3 (fun acc m => m a = none → mkL mt acc (mset m a (.lst xs)) QD), fun H3 h3 => ⟨xs.length - (i + 1), by omega, rfl, hlt, h3⟩, fun v H3 y => ?_⟩
    obtain ⟨rfl, y⟩ := y
    obtain ⟨w, hw1, hw2⟩ := rxs.get (show xs[i]? = some xs[i] by simp [hlt])
    have q := y us (SqL.of ha2)
    rw [hw1] at q
    cases q
    have p3 : Rp K G2 xs[i] v := hw2.mono e2
    have e03 : Same G G2 := e1.trans e2
    refine ct_ok hc (rs_wipe (x.rs.mono e03) vs) p3 ec rep2.ext fun s2 rs2 w2 => ?_
    refine ⟨w2.trans (wipe_wipe σ vs vs fun _ h => h), G2, _, r2, m2, _, ⟨rep2, rs2, Lx.no⟩, t2, fun G4 H4 m4 b e4 rep4 t4 => ?_⟩
    cases b with
    | false => exact ⟨G4, m4, acc, va, e2.trans e4, rep4, ra.mono e4, t4⟩
    | true =>
      refine ⟨G4, _, r2, m4, _, ⟨rep4, rs2.mono e4, Lx.no⟩, t4, fun G5 H5 m5 d v e5 rep5 p5 t5 => ?_⟩
      have ra5 := ra.mono (e4.trans e5)
      exact ⟨va, rep5.frm Dl _ upd_same, by rw [← ra5.length]; exact t5.1, G5, m5, acc ++ [d], va ++ [v], (e2.trans e4).trans e5, rep5.turn, ra5.append (.cons p5 .nil), t5.2⟩
  · have e : i = xs.length := by omega
    subst e
    rw [List.drop_length] at t2
    refine .inl ⟨⟨us, SqL.of ha2, by rw [rxs.length]; exact Nat.le_refl _⟩, ?_⟩
    have hFD : F Dl = none := by rw [upd_ne hDa] at hF; exact hF
    rw [upd_comm (fun z => hDa z.symm)] at rep2
    obtain ⟨ma, rep3⟩ := rep2.outM (by rw [upd_ne (fun z => hDa z.symm)]; exact hFa) (rxs.mono e2)
    have t3 := t2 ma
    cases mt with
    | false =>
      obtain ⟨e3, rep4, p4⟩ := rep3.outL hFD ra
      exact k _ H2 _ _ _ ((e1.trans e2).trans e3) rep4 p4 t3
    | true =>
      obtain ⟨mp, rep4⟩ := rep3.outM hFD ra
      exact k _ H2 _ _ _ (e1.trans e2) rep4 (.ref Dl) (t3 Dl mp)
theorem de_lcM (mt : Bool) {elt tg iter : Expr} {ifs : List Expr} {scope : Scope} {own : List (Str × Nat)} {pos : Pos} {ti : DTE} {c : CT} {tt : DTT} {te : DTE} (hc : X.calm = true) (hN : X.N.Nodup) (hin : c.in (own.map (·.2))) (hi : DE X W WD iter ti) (ok : BlkOk X.N X.env.scope scope own)
    (hg : ∀ (s : Shared) (H : Hp) (C : Addr) (cl : List (Str × Addr)) (fp : List Addr), PG (X.blk s H scope (compEnvC scope cl C X.env) fp) tg (ctG X.K c)) (ht : ∀ (s : Shared) (H : Hp) (C : Addr) (cl : List (Str × Addr)) (fp : List Addr), DTs (X.blk s H scope (compEnvC scope cl C X.env) fp) W0 WD0 ifs tt)
    (he : ∀ (s : Shared) (H : Hp) (C : Addr) (cl : List (Str × Addr)) (fp : List Addr), DE (X.blk s H scope (compEnvC scope cl C X.env) fp) W0 WD0 elt te) (hs : ∀ x, foldedSetIterable iter X.env x = pure x := by intro _; rfl) :
    DE X W WD (.ListComp elt [⟨tg, iter, ifs, 0⟩] scope pos) (dLcM mt ti c (own.map (·.2)) tt te) :=
  PE.imp (pe_lc hc hN (pi_list hi) ok hg ht he hs) fun _ _ _ h => lc_upM hin h
end
/-- what it gives, nothing changed -/
theorem lcM_pure {mt : Bool} {ti : DTE} {c : CT} {vs : List Nat} {te : DTE} {r : DSt} {m : M} {a : Addr} {xs : List D} {Q : D → M → Prop} (f : D → D) (ht : ∀ Q' : D → M → Prop, Q' (.ref a) m → ti r m Q') (ha : m a = some (.lst xs)) (hz : xs.length ≤ sizeLine)
    (h : ∀ x ∈ xs, ∃ r2, ctD c x (wipeD r vs) = some r2 ∧ ∀ Q' : D → M → Prop, Q' (f x) (mdel m a) → te r2 (mdel m a) Q') (q : mkL mt (xs.map f) m Q) : dLcM mt ti c vs dYes te r m Q := by
  refine ht _ ⟨a, xs, rfl, ha, lc_pure f (by simpa using hz) h fun _ => ?_⟩
  have e : mset (mdel m a) a (.lst xs) = m := by
    funext b
    unfold mset mdel
    by_cases hb : b = a
    · rw [if_pos hb, hb, ha]
    · rw [if_neg hb, if_neg hb]
  rw [e, List.nil_append]
  exact q
end DL

set_option Elab.async false
set_option linter.all false
set_option maxRecDepth 100000
set_option maxHeartbeats 4000000
namespace DL
open PySem PySem.Spec PyProof.Rows L2
open He (ga ma eqO eqO_ok ba)
/-- the i-th default of the def at f, if it is an object -/
def dflA (f : Fr0 → Addr) (i : Nat) (K : Fr0) : Addr := match K.lookup (f K) with
  | some ⟨_, _, .func fd, _⟩ => (match fd.defaults with
    | .ref T => (match K.lookup T with
      | some ⟨_, _, .seq its _, _⟩ => (match its.toList[i]? with
        | some (.ref a) => a
        | _ => 0)
      | _ => 0)
    | _ => 0)
  | _ => 0
theorem frz_l {m : M} {a : Addr} {ds : List D} {Q : D → M → Prop} : frzV (mset m a (.lst ds)) (.ref a) Q ↔ Q (.lst ds) (mdel (mset m a (.lst ds)) a) := by
  unfold frzV
  dsimp only
  rw [mset_same]
theorem in_ss {i j : Str} {m : M} {Q : D → M → Prop} : dIn false (.str i) (.str j) m Q ↔ Q (.bl (!(Builtin.Str.occurrences j i 0 j.length 1).isEmpty)) m := Iff.rfl
theorem notin_ss {i j : Str} {m : M} {Q : D → M → Prop} : dIn true (.str i) (.str j) m Q ↔ Q (.bl (!(!(Builtin.Str.occurrences j i 0 j.length 1).isEmpty))) m := Iff.rfl
theorem inD_strs (x : Str) : ∀ zs : List Str, inD (.str x) (zs.map D.str) = decide (x ∈ zs)
  | [] => rfl
  | z :: zs => by
    have ih := inD_strs x zs
    unfold inD at ih ⊢
    rw [List.map_cons, List.any_cons, ih]
    show ((z == x) || decide (x ∈ zs)) = _
    by_cases h : z = x
    · subst h; simp
    · have h2 : (z == x) = false := by simpa using h
      rw [h2, Bool.false_or]
      refine decide_eq_decide.mpr ⟨List.mem_cons_of_mem _, fun hm => ?_⟩
      rcases List.mem_cons.mp hm with e | e
      · exact absurd e.symm h
      · exact e
theorem flat_strs (zs : List Str) : (zs.map D.str).all flatD = true := by
  rw [List.all_map, List.all_eq_true]
  intro _ _
  rfl
/-- x in a list of texts -/
theorem in_strs {x : Str} {zs : List Str} {m : M} {d : D} {Q : D → M → Prop} (hd : sqOf m d = some (zs.map D.str)) (q : Q (.bl (decide (x ∈ zs))) m) : dIn false (.str x) d m Q := by
  cases d with
  | str j => cases hd
  | _ => exact ⟨_, hd, rfl, flat_strs zs, by rw [inD_strs]; exact q⟩
/-! ### == of a thing with itself, bools too -/
def clR : Nat → D → Bool
  | _, .non => true
  | _, .bl _ => true
  | _, .int _ => true
  | _, .str x => PyData.strOk x
  | n + 1, .lst xs => xs.all (clR n)
  | n + 1, .tup xs => xs.all (clR n)
  | _, _ => false
theorem clR_toP : ∀ (n : Nat) (x : D), clR n x = true → ∃ p, toP x = some p ∧ p.canLay0 = true ∧ p.depth ≤ n
  | n, .non, _ => ⟨.none, by rw [toP], rfl, by simp [PyData.depth]⟩
  | n, .bl i, _ => ⟨.bool i, by rw [toP], rfl, by simp [PyData.depth]⟩
  | n, .int i, _ => ⟨.int i, by rw [toP], rfl, by simp [PyData.depth]⟩
  | n, .str x, h => by
    refine ⟨.str x, by rw [toP], ?_, by simp [PyData.depth]⟩
    cases n <;> exact h
  | n + 1, .lst xs, h => by
    obtain ⟨ps, e, c, d⟩ := cl_all (n := n) fun x hx => clR_toP n x (List.all_eq_true.mp h x hx)
    exact ⟨.list ps, by rw [toP, e]; rfl, c, by show PyData.depthAll ps + 1 ≤ n + 1; omega⟩
  | n + 1, .tup xs, h => by
    obtain ⟨ps, e, c, d⟩ := cl_all (n := n) fun x hx => clR_toP n x (List.all_eq_true.mp h x hx)
    exact ⟨.tuple ps, by rw [toP, e]; rfl, c, by show PyData.depthAll ps + 1 ≤ n + 1; omega⟩
  | 0, .lst _, h => by cases h
  | 0, .tup _, h => by cases h
  | 0, .ty _, h => by cases h
  | 0, .ref _, h => by cases h
  | 0, .rdl _, h => by cases h
  | 0, .ins _ _, h => by cases h
  | 0, .exn _ _ _, h => by cases h
  | n + 1, .ty _, h => by cases h
  | n + 1, .ref _, h => by cases h
  | n + 1, .rdl _, h => by cases h
  | n + 1, .ins _ _, h => by cases h
  | n + 1, .exn _ _ _, h => by cases h
mutual
theorem eqv_refl : ∀ p : PyData, p.canLay0 = true → PyData.eqv p p = true
  | .none, _ => by simp [PyData.eqv]
  | .bool b, _ => by simp [PyData.eqv]
  | .int i, _ => by simp [PyData.eqv]
  | .str x, _ => by simp [PyData.eqv]
  | .list xs, h => by rw [PyData.eqv]; exact eqvAll_refl xs h
  | .tuple xs, h => by rw [PyData.eqv]; exact eqvAll_refl xs h
  | .dict _, h => by cases h
theorem eqvAll_refl : ∀ xs : List PyData, PyData.canLayAll0 xs = true → PyData.eqvAll xs xs = true
  | [], _ => by simp [PyData.eqvAll]
  | x :: xs, h => by
    have h : (PyData.canLay0 x && PyData.canLayAll0 xs) = true := h
    rw [Bool.and_eq_true] at h
    rw [PyData.eqvAll, eqv_refl x h.1, eqvAll_refl xs h.2]
    rfl
end
theorem eqB_refl {x : D} {b : Bool} (h : dEqB x x = some b) : b = true := (eqB_data h).mpr rfl
section
variable {m : M} {n : Nat} {x : D} {Q : D → M → Prop}
theorem dEq_refl (hn : n ≤ 64) (c : clR n x = true) (h : Q (.bl true) m) : dEq x x m Q := by
  unfold dEq
  cases e : dEqB x x with
  | some b => rw [eqB_refl e]; exact h
  | none =>
    obtain ⟨p, e1, l1, d1⟩ := clR_toP n x c
    have e2 : datOf m x = some p := by
      cases x with
      | ref a => cases n <;> cases c
      | _ => exact e1
    have sh : SeqAt.shaped p = true := by unfold SeqAt.shaped; rw [l1, decide_eq_true (by omega)]; rfl
    exact ⟨p, p, e2, e2, sh, sh, by rw [eqv_refl p l1]; exact h⟩
theorem dNe_refl (hn : n ≤ 64) (c : clR n x = true) (h : Q (.bl false) m) : dNe x x m Q := by
  unfold dNe
  cases e : dEqB x x with
  | some b => rw [eqB_refl e]; exact h
  | none =>
    obtain ⟨p, e1, l1, d1⟩ := clR_toP n x c
    have e2 : datOf m x = some p := by
      cases x with
      | ref a => cases n <;> cases c
      | _ => exact e1
    have sh : SeqAt.shaped p = true := by unfold SeqAt.shaped; rw [l1, decide_eq_true (by omega)]; rfl
    exact ⟨p, p, e2, e2, sh, sh, by rw [eqv_refl p l1]; exact h⟩
end
/-! ### is True, is False -/
def dIsB : DR2 := fun x y m Q => ∃ a b : Bool, x = .bl a ∧ y = .bl b ∧ Q (.bl (decide (a = b))) m
def dNotB : DR2 := fun x y m Q => ∃ a b : Bool, x = .bl a ∧ y = .bl b ∧ Q (.bl (!decide (a = b))) m
theorem od_isB {K : PySem.W.Frag} : OpD K rIsB dIsB := by
  intro G H F m x y vx vy QD Q r px py t k
  obtain ⟨a, b, rfl, rfl, t⟩ := t
  cases px; cases py
  exact ⟨a, b, rfl, rfl, k.here r (.bl _) t⟩
theorem od_notB {K : PySem.W.Frag} : OpD K rNotB dNotB := by
  intro G H F m x y vx vy QD Q r px py t k
  obtain ⟨a, b, rfl, rfl, t⟩ := t
  cases px; cases py
  exact ⟨a, b, rfl, rfl, k.here r (.bl _) t⟩
end DL

set_option Elab.async false
set_option linter.all false
set_option maxRecDepth 100000
set_option maxHeartbeats 4000000
namespace DL
open PySem PySem.Spec PyProof.Rows L2
/-! ### try: .. except A as e: .. except B: .. (several clauses, named or not) -/
abbrev Cls1 := Value × Option Nat × (Addr → Value → Option Addr → TS)
def cutE (i : Nat) (D : Ends) : Ends := { nx := fun σ H => D.nx (σ.set i none) H, rt := D.rt, bk := fun σ H => D.bk (σ.set i none) H, ct := fun σ H => D.ct (σ.set i none) H }
def inSuite (o : Option Nat) (ts : Addr → Value → Option Addr → TS) (D : Ends) (cls : Value) (d : Option Addr) (σ : L2.St) (H : Hp) : Prop := ∀ a, H a = none → match o with
  | none => ts a cls d D σ H
  | some i => ts a cls d (cutE i D) (σ.set i (some (.ref a))) H
def wList (K : PySem.W.Frag) (Wout : WX) (D : Ends) : List Cls1 → WX
  | [] => Wout
  | (c, o, ts) :: r => fun cls d σ H => ∃ b, PySem.W.exmOne K cls c = some b ∧ (b = true → inSuite o ts D cls d σ H) ∧ (b = false → wList K Wout D r cls d σ H)
/-- a clause's suite, walked -/
abbrev SuiteOk (X : Cx) (st : List Stmt) (ts : Addr → Value → Option Addr → TS) : Prop := ∀ (a : Addr) (oe : Obj) (cls : Value) (d : Option Addr) (pn : List (Addr × Obj)), Zc cls d oe → (∃ vs, oe.data = .fields vs) → PSs (X.suite a ((a, oe) :: pn)) st (ts a cls d)
inductive ClsOk (X : Cx) : List ExceptHandler → List Cls1 → Prop
  | nil : ClsOk X [] []
  | plain {x : Str} {c : Value} {ts : Addr → Value → Option Addr → TS} {b₀ : Stmt} {suite : List Stmt} {np p2 : Pos} {hds : List ExceptHandler} {l : List Cls1} (hc : Names X x c) (hsu : SuiteOk X (b₀ :: suite) ts) (r : ClsOk X hds l) :
      ClsOk X (.ExceptHandler (some (.Name x np)) none (b₀ :: suite) p2 :: hds) ((c, none, ts) :: l)
  | named {x n : Str} {i : Nat} {c : Value} {ts : Addr → Value → Option Addr → TS} {b₀ : Stmt} {suite : List Stmt} {np p2 : Pos} {hds : List ExceptHandler} {l : List Cls1} (hi : X.N[i]? = some n) (hln : X.env.kindOf n = some .local) (hc : Names X x c) (hsu : SuiteOk X (b₀ :: suite) ts) (r : ClsOk X hds l) :
      ClsOk X (.ExceptHandler (some (.Name x np)) (some n) (b₀ :: suite) p2 :: hds) ((c, some i, ts) :: l)
section
variable {X : Cx} {body : List Stmt} {h₀ : ExceptHandler} {hds : List ExceptHandler} {l : List Cls1} {pos : Pos} {tb : WX → TS} {Wout : WX}
theorem ps_try_list (hs : X.stack = X.env :: X.outer) (hf : X.env.frame = some X.env.locals) (hN : X.N.Nodup) (tk : Takes X Wout)
    (hb : ∀ (W : WX) (pn : List (Addr × Obj)) (xe : Value → Shared → Prop), Takes (X.tr pn xe) W → PassesOwn (model X.prog X.w) X.A X.env xe → PSs (X.tr pn xe) body (tb W)) (hh : ClsOk X (h₀ :: hds) l) :
    PS X (.Try body (h₀ :: hds) [] [] pos) (fun D σ H => tb (wList X.K Wout D l) D σ H) := by
  constructor
  intro pins s σ H D I h
  have okI := I.ok
  have fr : X.A.frames = some (X.env :: X.outer) := by rw [okI.frames, hs]
  apply wpAny_Try_except
  let catch_ : Value → Shared → Prop := fun e u => wpAny (model X.prog X.w) X.A (noteFrame e X.env) (fun _ u2 => wpAny (model X.prog X.w) X.A (setFlight e none) (fun _ u3 => wpAny (model X.prog X.w) X.A (handleBy e X.env (h₀ :: hds)) (SP X pins D) X.xe u3) X.xe u2) X.xe u
  have caught : Takes (X.tr (X.pn ++ pins) catch_) (wList X.K Wout D l) := by
    intro u t xx
    obtain ⟨ea, B, sI, pins', σ', H', cls, d, rfl, J', nb, up, sky, na, os, ag, w⟩ := xx
    have J : Inv X pins σ' H' sI := J'.ofTry okI
    have sk : Sky B (X.env :: X.outer) ea (Zc cls d) X.env.locals t.heap := by rw [← hs]; exact sky
    show wpAny (model X.prog X.w) X.A (noteFrame (.ref ea) X.env) _ _ _
    refine Sky.land Zc.steady fr hf sk fun hp fl upp => ?_
    have Jp : Inv X pins σ' H' { t with heap := hp } := J.landed nb fl.1 (up.trans upp) os ag
    obtain ⟨oe, vsE, he, hz, hd⟩ := fl.there
    have far : ea ∉ frs (X.env :: X.outer) := fun hm => by
      obtain ⟨_, o', e', hnf⟩ := fl.2.2.1.mem hm
      rw [he] at e'
      cases e'
      exact hnf _ hd
    have nL : ea ≠ X.env.locals := fun z => far (List.mem_filterMap.mpr ⟨X.env, List.mem_cons_self, by rw [hf, z]⟩)
    have nF : ea ∉ X.fs := fun hm => by
      obtain ⟨e1, he1, q⟩ := List.mem_filterMap.mp hm
      exact far (List.mem_filterMap.mpr ⟨e1, List.mem_cons_of_mem _ he1, q⟩)
    have Sp := Jp.suite he hd na nL nF
    have kind : PySem.W.Looks (model X.prog X.w) hp (typeOf (.ref ea)) cls := fun A Q E s k q => wpAny_typeOf_ref (k _ _ he) (by rw [hz.1]; exact q)
    have look : ∀ {x : Str} {c : Value} {np : Pos} {Q E : Value → Shared → Prop}, Names X x c → Q c { t with heap := hp } → wpAny (model X.prog X.w) (X.A.mark (some (.ref ea))) (eval (.Name x np) X.env) Q E { t with heap := hp } := by
      intro x c np Q E hc q
      obtain ⟨hg, hdbg, hm | ⟨hm, hv, hnn⟩⟩ := hc
      · exact ld_glob (X := X.suite ea ((ea, oe) :: (X.pn ++ pins))) Sp hg hm q hdbg
      · exact ld_blt (X := X.suite ea ((ea, oe) :: (X.pn ++ pins))) Sp hg hm hv q hnn hdbg
    have each : ∀ {hs2 : List ExceptHandler} {l2 : List Cls1}, ClsOk X hs2 l2 → wList X.K Wout D l2 cls d σ' H' → wpAny (model X.prog X.w) X.A (handleBy (.ref ea) X.env hs2) (SP X pins D) X.xe { t with heap := hp } := by
      intro hs2 l2 hk
      induction hk with
      | nil =>
        intro w
        apply wpAny_handleBy_nil
        obtain ⟨_, _, _, _, _, Tb, _, _, e1, _, e3, e4, _⟩ := id fl
        unfold PySem.passOn
        apply wpAny_bind
        refine wpAny_field e1 e3 e4 ?_
        rw [if_neg (show ¬ ((Value.ref Tb == Value.none) = true) by simp)]
        have out : wpAny (model X.prog X.w) X.A (setFlight (.ref ea) X.env.frame) (fun _ u4 => wpAny (model X.prog X.w) X.A (throw (.ref ea) : Sem Flow) (SP X pins D) X.xe u4) X.xe { t with heap := hp } := by
          rw [hf]
          refine HandSPX.setFlight_upZ fl fun h4 hh4 up4 => ?_
          apply wpAny_throw
          exact tk _ _ ⟨ea, B, sI, pins, σ', H', cls, d, rfl, J, nb, (up.trans upp).trans up4, .inr (.inr (by rw [hs]; exact hh4)), na, os, ag, w⟩
        first | exact wpAny_bind (wpAny_pure (wpAny_bind out)) | exact wpAny_bind out
      | plain hc hsu r ih =>
        intro w
        obtain ⟨b, yn, yes, no⟩ := w
        refine wpAny_handleBy_cons (codeAny_handlers_test (look hc ((PySem.W.exm_one (M := model X.prog X.w) Jp.kIn kind yn).here ?_))) (by intro q; cases q)
        cases b with
        | false => exact ih (no rfl)
        | true =>
          apply codeAny_handlers_suite
          refine HandSPX.lands_againZ fl fun h4 fl4 up4 => ?_
          obtain ⟨o4, _, x4, z4, d4⟩ := fl4.there
          have J4 : Inv X pins σ' H' { t with heap := h4 } := J.landed nb fl4.1 ((up.trans upp).trans up4) os ag
          have S4 := J4.suite x4 d4 na nL nF
          refine wpAny_mono ((hsu ea o4 cls d (X.pn ++ pins) z4 ⟨_, d4⟩).run [] _ _ H' _ S4 (yes rfl ea na)) (fun fl6 u6 end6 => ?_) (fun _ _ z => z.elim)
          match fl6, end6 with
          | .next, ⟨_, _, S6, q6⟩ => exact ⟨_, _, S6.unsuite okI, q6⟩
          | .brk, ⟨_, _, S6, q6⟩ => exact ⟨_, _, S6.unsuite okI, q6⟩
          | .cont, ⟨_, _, S6, q6⟩ => exact ⟨_, _, S6.unsuite okI, q6⟩
          | .ret _, ⟨_, _, _, S6, r6, q6⟩ => exact ⟨_, _, _, S6.unsuite okI, r6, q6⟩
      | @named x n i c ts b₀ suite np p2 hds2 l2 hi hln hc hsu r ih =>
        intro w
        obtain ⟨b, yn, yes, no⟩ := w
        refine wpAny_handleBy_cons (codeAny_handlers_test (look hc ((PySem.W.exm_one (M := model X.prog X.w) Jp.kIn kind yn).here ?_))) (by intro q; cases q)
        cases b with
        | false => exact ih (no rfl)
        | true =>
          apply codeAny_handlers_suite_as
          refine HandSPX.lands_againZ fl fun h4 fl4 up4 => ?_
          obtain ⟨o4, _, x4, z4, d4⟩ := fl4.there
          have J4 : Inv X pins σ' H' { t with heap := h4 } := J.landed nb fl4.1 ((up.trans upp).trans up4) os ag
          have S4 := J4.suite x4 d4 na nL nF
          refine store_ok (X := X.suite ea ((ea, o4) :: (X.pn ++ pins))) (v := .ref ea) S4 hN hi (.inl hln) rfl (fun u5 S5 => ?_) (.inr hln)
          refine wpAny_mono ((hsu ea o4 cls d (X.pn ++ pins) z4 ⟨_, d4⟩).run [] u5 _ H' _ S5 (yes rfl ea na)) (fun fl6 u6 end6 => ?_) (fun _ _ z => z.elim)
          have gone : ∀ {σ6 : L2.St} {H6 : Hp} {Q : Shared → Prop}, Inv (X.suite ea ((ea, o4) :: (X.pn ++ pins))) [] σ6 H6 u6 → (∀ u7, Inv X pins (σ6.set i none) H6 u7 → Q u7) → wpAny (model X.prog X.w) X.A (do bindName X.env n .none; unbindBehindTheSuite X.env n p2) (fun _ u7 => Q u7) X.xe u6 := fun S6 hq => gone_ok (S6.unsuite okI) hN hi hln hq
          match fl6, end6 with
          | .next, ⟨_, _, S6, q6⟩ => exact gone S6 fun _ J7 => ⟨_, _, J7, q6⟩
          | .brk, ⟨_, _, S6, q6⟩ => exact gone S6 fun _ J7 => ⟨_, _, J7, q6⟩
          | .cont, ⟨_, _, S6, q6⟩ => exact gone S6 fun _ J7 => ⟨_, _, J7, q6⟩
          | .ret _, ⟨_, _, _, S6, r6, q6⟩ => exact gone S6 fun _ J7 => ⟨_, _, _, J7, r6, q6⟩
    exact each hh w
  refine wpAny_mono ((hb _ (X.pn ++ pins) catch_ caught PassesOwn.looking).run [] s σ H D (I.toTry _) h) (fun fl6 u6 end6 => ?_) (fun _ _ he => he)
  match fl6, end6 with
  | .next, ⟨_, _, J6, q6⟩ => exact wpAny_execs_nil ⟨_, _, J6.ofTry okI, q6⟩
  | .brk, ⟨_, _, J6, q6⟩ => exact ⟨_, _, J6.ofTry okI, q6⟩
  | .cont, ⟨_, _, J6, q6⟩ => exact ⟨_, _, J6.ofTry okI, q6⟩
  | .ret _, ⟨_, _, _, J6, r6, q6⟩ => exact ⟨_, _, _, J6.ofTry okI, r6, q6⟩
end

/-! ### the same over deep data -/
abbrev DCls := Value × Option Nat × DTX
def dCut (i : Nat) (DD : DEnds) : DEnds := { nx := fun r' m' => DD.nx (r'.set i none) m', rt := DD.rt, bk := fun r' m' => DD.bk (r'.set i none) m', ct := fun r' m' => DD.ct (r'.set i none) m' }
def dInS : Option Nat → DTX → DEnds → DWX
  | none, ts, DD => fun x r m => ∀ a d, m a = none → ts a x.C d DD r m
  | some i, ts, DD => fun x r m => ∀ a d, m a = none → ts a x.C d (dCut i DD) (r.set i (some (.exn a d x.fs))) m
def dCatchL (K : PySem.W.Frag) (WD : DWX) (DD : DEnds) : List DCls → DWX
  | [] => WD
  | (c, o, ts) :: l => fun x r m => ∃ b, PySem.W.exmOne K (.ref x.C) c = some b ∧ (b = true → dInS o ts DD x r m) ∧ (b = false → dCatchL K WD DD l x r m)
def dTryL (K : PySem.W.Frag) (tb : DWX → DTS) (l : List DCls) (WD : DWX) : DTS := fun DD r m => tb (dCatchL K WD DD l) DD r m
abbrev DSuiteOk (X : Cx) (st : List Stmt) (ts : DTX) : Prop := ∀ (a : Addr) (oe : Obj) (C : Addr) (d : Option Addr) (pn : List (Addr × Obj)), Zc (.ref C) d oe → (∃ vs, oe.data = .fields vs) → DSs (X.suite a ((a, oe) :: pn)) W0 WD0 st (ts a C d)
inductive DClsOk (X : Cx) : List ExceptHandler → List DCls → Prop
  | nil : DClsOk X [] []
  | plain {x : Str} {c : Value} {ts : DTX} {b₀ : Stmt} {suite : List Stmt} {np p2 : Pos} {hds : List ExceptHandler} {l : List DCls} (hc : Names X x c) (hsu : DSuiteOk X (b₀ :: suite) ts) (r : DClsOk X hds l) :
      DClsOk X (.ExceptHandler (some (.Name x np)) none (b₀ :: suite) p2 :: hds) ((c, none, ts) :: l)
  | named {x n : Str} {i : Nat} {c : Value} {ts : DTX} {b₀ : Stmt} {suite : List Stmt} {np p2 : Pos} {hds : List ExceptHandler} {l : List DCls} (hi : X.N[i]? = some n) (hln : X.env.kindOf n = some .local) (hc : Names X x c) (hsu : DSuiteOk X (b₀ :: suite) ts) (r : DClsOk X hds l) :
      DClsOk X (.ExceptHandler (some (.Name x np)) (some n) (b₀ :: suite) p2 :: hds) ((c, some i, ts) :: l)
def lowTs (K : PySem.W.Frag) (ts : DTX) : Addr → Value → Option Addr → TS := fun a cls d E σ H => ∃ C, cls = .ref C ∧ upS K W0 WD0 (ts a C d) E σ H
def lowC (K : PySem.W.Frag) (q : DCls) : Cls1 := (q.1, q.2.1, lowTs K q.2.2)
theorem low_suite {X : Cx} {st : List Stmt} {ts : DTX} (h : DSuiteOk X st ts) : SuiteOk X st (lowTs X.K ts) := fun a oe cls d pn hz hv => ⟨fun pins s σ H E I g => by
  obtain ⟨C, rfl, g⟩ := g
  exact (h a oe C d pn hz hv).run pins s σ H E I g⟩
theorem low_ok {X : Cx} {hds : List ExceptHandler} {l : List DCls} (h : DClsOk X hds l) : ClsOk X hds (l.map (lowC X.K)) := by
  induction h with
  | nil => exact .nil
  | plain hc hsu r ih => exact .plain hc (low_suite hsu) ih
  | named hi hln hc hsu r ih => exact .named hi hln hc (low_suite hsu) ih
section
variable {X : Cx} {W : WX} {WD : DWX} {body : List Stmt} {h₀ : ExceptHandler} {hds : List ExceptHandler} {l : List DCls} {pos : Pos} {tb : DWX → DTS}
theorem ds_try_list (hs : X.stack = X.env :: X.outer) (hf : X.env.frame = some X.env.locals) (hN : X.N.Nodup) (tk : Takes X W)
    (hb : ∀ (W : WX) (WD : DWX) (pn : List (Addr × Obj)) (xe : Value → Shared → Prop), Takes (X.tr pn xe) W → PassesOwn (model X.prog X.w) X.A X.env xe → DSs (X.tr pn xe) W WD body (tb WD)) (hh : DClsOk X (h₀ :: hds) l) :
    DS X W WD (.Try body (h₀ :: hds) [] [] pos) (dTryL X.K tb l WD) := by
  refine PS.imp (ps_try_list (tb := fun W E σ H => ∃ WD', upS X.K W WD' (tb WD') E σ H) (l := l.map (lowC X.K)) hs hf hN tk (fun W pn xe tk' hp' => ⟨fun pins s σ H E I h => ?_⟩) (low_ok hh)) fun E σ H h => ?_
  · obtain ⟨WD', h⟩ := h
    exact (hb W WD' pn xe tk' hp').run pins s σ H E I h
  · obtain ⟨G, F, r, m, DD, x, t, k⟩ := h
    refine ⟨dCatchL X.K WD DD l, G, F, r, m, DD, ⟨x.rep, x.rs, fun G' H' m' r' s' C fs d e r1 rs1 rx wd => ?_⟩, t, k⟩
    clear t hh
    induction l with
    | nil => exact x.lx G' H' m' r' s' C fs d e r1 rs1 rx wd
    | cons q l ih =>
      obtain ⟨c, o, ts⟩ := q
      obtain ⟨b, eb, h1, h2⟩ := wd
      refine ⟨b, eb, fun hb => ?_, fun hb => ih (h2 hb)⟩
      have h1 := h1 hb
      cases o with
      | none => exact fun a ha => ⟨C, rfl, G', F, r', m', DD, ⟨r1, rs1, Lx.no⟩, h1 a d (r1.mfree ha), k.mono e⟩
      | some i =>
        have k' := k.mono e
        exact fun a ha => ⟨C, rfl, G', F, _, m', _, ⟨r1, rs1.set (rp_exn rx), Lx.no⟩, h1 a d (r1.mfree ha), ⟨fun G2 H2 m2 r2 s2 e2 rep2 rs2 t2 => k'.nx G2 H2 m2 _ _ e2 rep2 (rs_none rs2 i none) t2, k'.rt, fun G2 H2 m2 r2 s2 e2 rep2 rs2 t2 => k'.bk G2 H2 m2 _ _ e2 rep2 (rs_none rs2 i none) t2, fun G2 H2 m2 r2 s2 e2 rep2 rs2 t2 => k'.ct G2 H2 m2 _ _ e2 rep2 (rs_none rs2 i none) t2⟩⟩
end
end DL

set_option Elab.async false
set_option linter.all false
set_option maxRecDepth 100000
set_option maxHeartbeats 4000000
namespace DL
open PySem PySem.Spec PyProof.Rows L2
open He (ga ba)
/-! ### isinstance(e, c), e the error that is handled, with or without fields -/
def rIsX (K : PySem.W.Frag) (a ec : Addr) (ed : Option Addr) : List V → Hp → VK → Prop := fun xs H Q => ∃ (c : V) (cv : Value) (b : Bool), xs = [.ref a, c] ∧ ClsV c cv ∧ ExcC K ec ∧ (ed = none ∨ ∃ dd fs, ed = some dd ∧ H dd = some (.xd fs)) ∧ PySem.W.kitOne K (.ref ec) cv = some b ∧ Q (.bl b) H
theorem call_isX {X : Cx} {a ec : Addr} {ed : Option Addr} {oe : Obj} {pn : List (Addr × Obj)} (hz : Zc (.ref ec) ed oe) (hv : ∃ vs, oe.data = .fields vs) : CallR (X.suite a ((a, oe) :: pn)) (.builtin "isinstance") (rIsX X.K a ec ed) := by
  intro pins s σ H xs us Q I r h
  obtain ⟨c, cv, b, rfl, hcv, C, hd, e, q⟩ := h
  cases r with
  | cons rx rr =>
    cases rr with
    | cons rt rr =>
      cases rr
      cases rx
      have ec' : ∀ u, RelV c u → u = cv := fun u ru => by
        cases hcv <;> cases ru <;> rfl
      have ec' := ec' _ rt
      subst ec'
      obtain ⟨hget, _⟩ := I.pin (a, oe) (List.mem_append.mpr (.inl List.mem_cons_self))
      obtain ⟨vs, hv⟩ := hv
      have cl : (PySem.W.clsIn X.K ec).isSome = true := by
        have h1 := C.hd
        unfold PySem.W.hasDictIn at h1
        cases hc : PySem.W.clsIn X.K ec with
        | none => rw [hc] at h1; cases h1
        | some _ => rfl
      obtain ⟨od, J⟩ : ∃ od, PySem.W.InstAt s.heap a oe ec od := by
        rcases hd with rfl | ⟨dd, fs, rfl, hdd⟩
        · exact ⟨none, hget, hz.1, by unfold PySem.W.notCls; rw [hv], by rw [hz.2]; trivial⟩
        · obtain ⟨mA, hns, _⟩ : ObjOk X.prog X.w H s.heap dd (.xd fs) := I.hok dd _ hdd
          obtain ⟨od, ho, _⟩ := lookIn_ns hns
          exact ⟨some od, hget, hz.1, by unfold PySem.W.notCls; rw [hv], by rw [hz.2]; exact ho⟩
      exact PySem.W.kia_one (PySem.W.kitx_exc cl C.hg C.hk C.hs C.ha C.hn C.ht C.hm) I.kIn J e (fun z => nomatch z) fun tk => ⟨.bl b, H, I.kept (t' := tk) fun _ _ z => z, rfl, q⟩
def dIsX (K : PySem.W.Frag) (a ec : Addr) (ed : Option Addr) : DRC := fun ds m Q => ∃ (fs : List (Str × D)) (c : D) (u : Value) (b : Bool), ds = [.exn a ed fs, c] ∧ ((∃ T, c = .ty T ∧ u = Value.type T) ∨ (∃ C, c = .ref C ∧ u = .ref C)) ∧ ExcC K ec ∧ PySem.W.kitOne K (.ref ec) u = some b ∧ Q (.bl b) m
theorem cd_isX {K : PySem.W.Frag} {a ec : Addr} {ed : Option Addr} : CallD K (rIsX K a ec ed) (dIsX K a ec ed) := by
  intro G H F m ds vs QD Q r ps t k
  obtain ⟨fs, c, u, b, rfl, hc, hx, hk, t⟩ := t
  obtain ⟨v, w, rfl, p, q⟩ := rps2 ps
  have cv : ClsV w u := by
    rcases hc with ⟨T, rfl, rfl⟩ | ⟨C, rfl, rfl⟩
    · cases q; exact .ty T
    · cases q; exact .own C
  cases p with
  | exn0 a => exact ⟨w, u, b, rfl, cv, hx, .inl rfl, hk, k.here r (.bl _) t⟩
  | exnS h1 h2 => exact ⟨w, u, b, rfl, cv, hx, .inr ⟨_, _, rfl, r.ext _ _ h1⟩, hk, k.here r (.bl _) t⟩
section
variable {K : PySem.W.Frag} {a ec C : Addr} {ed : Option Addr} {m : M} {Q : D → M → Prop} {fs : List (Str × D)} {b : Bool}
theorem isx_ty {T : String} (h : ExcC K ec) (k : PySem.W.kitOne K (.ref ec) (.type T) = some b) : dIsX K a ec ed [.exn a ed fs, .ty T] m Q ↔ Q (.bl b) m := by
  constructor
  · rintro ⟨fs', c, u, b', e, hc, _, hk, q⟩
    cases e
    rcases hc with ⟨T', e, rfl⟩ | ⟨C, e, _⟩
    · cases e; rw [k] at hk; cases hk; exact q
    · cases e
  · exact fun q => ⟨fs, _, _, b, rfl, .inl ⟨T, rfl, rfl⟩, h, k, q⟩
theorem isx_own (h : ExcC K ec) (k : PySem.W.kitOne K (.ref ec) (.ref C) = some b) : dIsX K a ec ed [.exn a ed fs, .ref C] m Q ↔ Q (.bl b) m := by
  constructor
  · rintro ⟨fs', c, u, b', e, hc, _, hk, q⟩
    cases e
    rcases hc with ⟨T', e, rfl⟩ | ⟨C, e, rfl⟩
    · cases e
    · cases e; rw [k] at hk; cases hk; exact q
  · exact fun q => ⟨fs, _, _, b, rfl, .inr ⟨C, rfl, rfl⟩, h, k, q⟩
end
/-! facts -/
def xisB (C : Str) (K : Fr0) : Bool := decide (PySem.W.findIn K (.ref (ga K C)) "__getattribute__" = some (some (.builtin "BaseException.__getattribute__"))) && (decide (PySem.W.findIn K (.ref (ga K C)) "__getattr__" = some none) && (decide (PySem.W.subIn K (.ref (ga K C)) (.type "BaseException") = some true) && (PySem.W.hasDictIn K (ga K C) &&
  (decide (PySem.W.findIn K (.ref (ga K C)) "__class__" = some (some (.builtin "object.__class__"))) && (decide (PySem.W.specialIn K (.builtin "object.__class__") "__get__" = some (some (.builtin "getset_descriptor.__get__"))) && (decide (PySem.W.takesIn K (.builtin "object.__class__") = some true) && decide (PySem.W.mroIn K (ga K C) (.type "object") = some true)))))))
theorem xis_of {K : Fr0} {C : Str} (h : xisB C K = true) : ExcC K (ga K C) := by
  obtain ⟨h1, h⟩ := ba h
  obtain ⟨h2, h⟩ := ba h
  obtain ⟨h3, h⟩ := ba h
  obtain ⟨h4, h⟩ := ba h
  obtain ⟨h5, h⟩ := ba h
  obtain ⟨h6, h⟩ := ba h
  obtain ⟨h7, h8⟩ := ba h
  exact ⟨of_decide_eq_true h1, of_decide_eq_true h2, of_decide_eq_true h3, h4, of_decide_eq_true h5, of_decide_eq_true h6, of_decide_eq_true h7, of_decide_eq_true h8⟩
def kitTB (C : Str) (T : String) (b : Bool) (K : Fr0) : Bool := decide (PySem.W.kitOne K (.ref (ga K C)) (.type T) = some b)
def kitOB (C C' : Str) (b : Bool) (K : Fr0) : Bool := decide (PySem.W.kitOne K (.ref (ga K C)) (.ref (ga K C')) = some b)
end DL

set_option Elab.async false
set_option linter.all false
set_option maxRecDepth 100000
set_option maxHeartbeats 4000000
namespace DL
open PySem PySem.Spec PyProof.Rows L2
/-! ### a text so many times -/
def rMulS : R2 := fun x y H Q => ∃ z n, x = .str z ∧ y = .int n ∧ PySem.MulOk z n ∧ Q (.str (PySem.Txt.mul z n)) H
def dMulS : DR2 := fun x y m Q => ∃ z n, x = .str z ∧ y = .int n ∧ PySem.MulOk z n ∧ Q (.str (PySem.Txt.mul z n)) m
section
variable {K : PySem.W.Frag} {X : Cx} {W : WX} {WD : DWX} {a b : Expr} {ta tb : DTE} {pos : Pos}
theorem op_mulS : OpR X (binaryOp .Mult) rMulS := by
  intro pins s σ H x y v u Q I rx ry h
  obtain ⟨z, n, rfl, rfl, ok, q⟩ := h
  obtain ⟨t, rfl⟩ := rx
  obtain ⟨t', rfl⟩ := ry
  exact PySem.SB.mul ok fun t2 k => ⟨.str (PySem.Txt.mul z n), H, I.tok k, ⟨_, rfl⟩, q⟩
theorem od_mulS : OpD K rMulS dMulS := by
  intro G H F m x y vx vy QD Q r px py t k
  obtain ⟨z, n, rfl, rfl, ok, t⟩ := t
  cases px; cases py
  exact ⟨z, n, rfl, rfl, ok, k.here r (.str _) t⟩
theorem de_mulS (ha : DE X W WD a ta) (hb : DE X W WD b tb) : DE X W WD (.BinOp a .Mult b pos) (dOp dMulS ta tb) := PE.imp (pe_op op_mulS ha hb) fun _ _ _ h => up_op od_mulS h
/-! ### divmod -/
def dDivmod : DRC := fun ds m Q => ∃ i j, ds = [.int i, .int j] ∧ CDivP i j ∧ Q (.tup [.int (i / j), .int (i % j)]) m
theorem cd_divmod : CallD K (fun xs H Q => ∃ i j, xs = [.int i, .int j] ∧ CDivP i j ∧ ∀ p, H p = none → Q (.ref p) (upd H p (.tup [.int (i / j), .int (i % j)]))) dDivmod := by
  intro G H F m ds vs QD Q r ps t k
  obtain ⟨i, j, rfl, hc, t⟩ := t
  obtain ⟨v, w, rfl, p, q⟩ := rps2 ps
  cases p; cases q
  exact ⟨i, j, rfl, hc, fun a ha => mkT_ok k r (.cons (.int _) (.cons (.int _) .nil)) ha t⟩
/-! ### x.count(y), texts -/
def dCountS : DRM := fun x ds m Q => ∃ z y, x = .str z ∧ ds = [.str y] ∧ Q (.int (PySem.Txt.count z y)) m
theorem md_countS : MtD K "str" (fun x xs H Q => ∃ a b, x = .str a ∧ xs = [.str b] ∧ Q (.int (PySem.Txt.count a b)) H) isS dCountS := by
  refine ⟨fun G H F m x vx r p h => ty_str r p h, fun G H F m x vx ds vs QD Q r px ps t k => ?_⟩
  obtain ⟨z, y, rfl, rfl, t⟩ := t
  cases px
  obtain ⟨v, rfl, p⟩ := rps1 ps
  cases p
  exact ⟨z, y, rfl, rfl, k.here r (.int _) t⟩
/-! ### xs.index(y), plain things -/
def dIndex : DRM := fun x ds m Q => ∃ (xs : List D) (y z : D) (j : Nat), lsOf m x = some xs ∧ ds = [y] ∧ flatD y = true ∧ xs.all flatD = true ∧ xs[j]? = some z ∧ eqD z y = true ∧ (∀ i z', i < j → xs[i]? = some z' → eqD z' y = false) ∧ Q (.int (j : Nat)) m
theorem md_index : MtD K "list" (rIndex K) isL dIndex := by
  refine ⟨fun G H F m x vx r p h => ty_list r p h, fun G H F m x vx ds vs QD Q r px ps t k => ?_⟩
  obtain ⟨xs, y, z, j, e, rfl, fy, fx, hz, hq, hno, t⟩ := t
  obtain ⟨a, us, rfl, hs, rs⟩ := ls_ok r px e
  obtain ⟨v, rfl, p⟩ := rps1 ps
  obtain ⟨w, hw, pw⟩ := rs.get hz
  have fz : flatD z = true := List.all_eq_true.mp fx z (List.mem_of_getElem? hz)
  refine ⟨a, us, v, j, w, rfl, rfl, hs, flat_ok p fy, flats_ok rs fx, hw, by rw [eqD_ok pw p fz fy]; exact hq, fun i u hi hu => ?_, k.here r (.int _) t⟩
  have hl : i < xs.length := by
    have := (List.getElem?_eq_some_iff.mp hz).1
    omega
  have e2 : xs[i]? = some xs[i] := List.getElem?_eq_getElem hl
  obtain ⟨u2, hu2, pu⟩ := rs.get e2
  rw [hu2] at hu
  cases hu
  rw [eqD_ok pu p (List.all_eq_true.mp fx _ (List.mem_of_getElem? e2)) fy]
  exact hno i _ hi e2
end
/-- list.index of ints -/
theorem index_ints {m : M} {x : D} {ns : List Int} {y : Int} {j : Nat} {Q : D → M → Prop} (e : lsOf m x = some (ns.map D.int)) (h : ns[j]? = some y) (hno : ∀ i z, i < j → ns[i]? = some z → z ≠ y) (q : Q (.int (j : Nat)) m) : dIndex x [.int y] m Q := by
  refine ⟨_, _, .int y, j, e, rfl, rfl, ?_, by rw [List.getElem?_map, h]; rfl, by simp [eqD], fun i z' hi hz => ?_, q⟩
  · rw [List.all_map, List.all_eq_true]
    intro k _
    rfl
  · rw [List.getElem?_map] at hz
    cases e2 : ns[i]? with
    | none => rw [e2] at hz; cases hz
    | some w =>
      rw [e2] at hz
      cases hz
      simp only [eqD, beq_eq_false_iff_ne]
      exact hno i w hi e2
end DL

set_option linter.all false
namespace RowM
/-- the value at t of the row that is told by cs, p and g -/
def val (cs : List Int) (p : Nat) (g : Int) (t : Nat) : Int :=
  if t < cs.length then cs.getD t 0 else cs.getD (t - ((t - cs.length) / p + 1) * p) 0 + (((t - cs.length) / p + 1 : Nat) : Int) * g
theorem val_lt {cs : List Int} {p : Nat} {g : Int} {t : Nat} (h : t < cs.length) : val cs p g t = cs.getD t 0 := if_pos h
theorem val_step {cs : List Int} {p : Nat} {g : Int} (h1 : 1 ≤ p) (h2 : p ≤ cs.length) {t : Nat} (ht : cs.length ≤ t + p) : val cs p g (t + p) = val cs p g t + g := by
  unfold val
  rw [if_neg (by omega)]
  by_cases hl : t < cs.length
  · rw [if_pos hl]
    have e : (t + p - cs.length) / p = 0 := Nat.div_eq_of_lt (by omega)
    rw [e]
    have e2 : t + p - (0 + 1) * p = t := by omega
    rw [e2]
    simp
  · rw [if_neg hl]
    have e : (t + p - cs.length) / p = (t - cs.length) / p + 1 := by
      have : t + p - cs.length = (t - cs.length) + p := by omega
      rw [this, Nat.add_div_right _ (by omega)]
    rw [e]
    generalize hq : (t - cs.length) / p = q
    have hle : q * p ≤ t - cs.length := by
      rw [← hq]
      exact Nat.div_mul_le_self _ _
    have e2 : t + p - (q + 1 + 1) * p = t - (q + 1) * p := by
      rw [Nat.succ_mul (q + 1) p]
      omega
    rw [e2]
    have e3 : ((q + 1 + 1 : Nat) : Int) * g = ((q + 1 : Nat) : Int) * g + g := by
      rw [Int.natCast_add (q + 1) 1, Int.add_mul]
      simp
    rw [e3, Int.add_assoc]
/-- from s on the values come again after d, with g -/
def Per (v : Nat → Int) (d s : Nat) (g : Int) : Prop := ∀ t, s ≤ t → v (t + d) = v t + g
def dl (v : Nat → Int) (t : Nat) : Int := v (t + 1) - v t
theorem Per.dl {v : Nat → Int} {d s : Nat} {g : Int} (h : Per v d s g) : ∀ t, s ≤ t → RowM.dl v (t + d) = RowM.dl v t := fun t ht => by
  unfold RowM.dl
  have e : t + d + 1 = t + 1 + d := by omega
  rw [e, h t ht, h (t + 1) (by omega)]
  omega
theorem per_of_dl {v : Nat → Int} {d s : Nat} (h : ∀ t, s ≤ t → RowM.dl v (t + d) = RowM.dl v t) : Per v d s (v (s + d) - v s) := by
  intro t ht
  obtain ⟨k, rfl⟩ : ∃ k, t = s + k := ⟨t - s, by omega⟩
  induction k with
  | zero => simp; omega
  | succ k ih =>
    have ih := ih (by omega)
    have e := h (s + k) (by omega)
    unfold RowM.dl at e
    have e1 : s + k + d + 1 = s + (k + 1) + d := by omega
    rw [e1] at e
    have e2 : s + k + 1 = s + (k + 1) := by omega
    rw [e2] at e
    omega
theorem dl_mul {v : Nat → Int} {d s : Nat} (h : ∀ t, s ≤ t → RowM.dl v (t + d) = RowM.dl v t) : ∀ (q t : Nat), s ≤ t → RowM.dl v (t + q * d) = RowM.dl v t
  | 0, t, _ => by simp
  | q + 1, t, ht => by
    rw [Nat.succ_mul, ← Nat.add_assoc, h _ (by omega), dl_mul h q t ht]
theorem per_mul {v : Nat → Int} {d s : Nat} {g : Int} (h : Per v d s g) : ∀ (q t : Nat), s ≤ t → v (t + q * d) = v t + (q : Int) * g
  | 0, t, _ => by simp
  | q + 1, t, ht => by
    rw [Nat.succ_mul, ← Nat.add_assoc, h _ (by omega), per_mul h q t ht]
    rw [Int.natCast_add, Int.add_mul]
    simp
    omega
/-- the one form -/
structure NF (v : Nat → Int) (L : Nat) (R : Int) (S : Nat) : Prop where
  pos : 1 ≤ L
  per : Per v L S R
  least : ∀ d, 1 ≤ d → d < L → ∀ s, ¬ ∀ t, s ≤ t → dl v (t + d) = dl v t
  first : S = 0 ∨ v (S - 1 + L) ≠ v (S - 1) + R
theorem NF.unique {v : Nat → Int} {L L' S S' : Nat} {R R' : Int} (a : NF v L R S) (b : NF v L' R' S') : L = L' ∧ R = R' ∧ S = S' := by
  have hL : L = L' := by
    rcases Nat.lt_trichotomy L L' with h | h | h
    · exact absurd a.per.dl (b.least L a.pos h S)
    · exact h
    · exact absurd b.per.dl (a.least L' b.pos h S')
  subst hL
  have hR : R = R' := by
    have h1 := a.per (S + S') (by omega)
    have h2 := b.per (S + S') (by omega)
    omega
  subst hR
  refine ⟨rfl, rfl, ?_⟩
  have one : ∀ {S S' : Nat}, NF v L R S → NF v L R S' → S' ≤ S := by
    intro S S' a b
    rcases b.first with h | h
    · omega
    · by_cases hs : S' ≤ S
      · exact hs
      · exact absurd (a.per (S' - 1) (by omega)) h
  have h1 := one a b
  have h2 := one b a
  omega
/-- steps of one round, from first on -/
def stp (v : Nat → Int) (f p : Nat) : List Int := (List.range p).map fun k => dl v (f + k)
theorem stp_len (v : Nat → Int) (f p : Nat) : (stp v f p).length = p := by simp [stp]
theorem stp_at {v : Nat → Int} {f p k : Nat} (h : k < p) : (stp v f p)[k]? = some (dl v (f + k)) := by
  unfold stp
  rw [List.getElem?_map, List.getElem?_range h]
  rfl
theorem rot_at {st : List Int} {d k : Nat} (hd : d ≤ st.length) (hk : k < st.length) : (st.drop d ++ st.take d)[k]? = st[if k + d < st.length then k + d else k + d - st.length]? := by
  by_cases h : k + d < st.length
  · rw [if_pos h, List.getElem?_append_left (by simp; omega), List.getElem?_drop, Nat.add_comm]
  · rw [if_neg h, List.getElem?_append_right (by simp; omega), List.getElem?_take, if_pos (by simp; omega)]
    congr 1
    simp
    omega
theorem rot_iff {v : Nat → Int} {f p d : Nat} (hp : ∀ t, f ≤ t → dl v (t + p) = dl v t) (h0 : 1 ≤ p) (hd : d ≤ p) : stp v f p = (stp v f p).drop d ++ (stp v f p).take d ↔ ∀ t, f ≤ t → dl v (t + d) = dl v t := by
  have small : ∀ k, k < p → ((stp v f p).drop d ++ (stp v f p).take d)[k]? = some (dl v (f + k + d)) := by
    intro k hk
    rw [rot_at (by rw [stp_len]; exact hd) (by rw [stp_len]; exact hk), stp_len]
    by_cases h : k + d < p
    · rw [if_pos h, stp_at h]
      congr 2
      omega
    · rw [if_neg h, stp_at (by omega)]
      congr 1
      rw [← hp (f + (k + d - p)) (by omega)]
      congr 1
      omega
  constructor
  · intro e t ht
    have key : ∀ k, k < p → dl v (f + k + d) = dl v (f + k) := by
      intro k hk
      have h1 := small k hk
      rw [← e, stp_at hk] at h1
      exact (Option.some.inj h1).symm
    have e1 : t = f + (t - f) % p + (t - f) / p * p := by
      have := Nat.mod_add_div (t - f) p
      rw [Nat.mul_comm] at this
      omega
    have hr : (t - f) % p < p := Nat.mod_lt _ (by omega)
    rw [e1]
    rw [dl_mul hp _ _ (by omega)]
    have e2 : f + (t - f) % p + (t - f) / p * p + d = f + (t - f) % p + d + (t - f) / p * p := by omega
    rw [e2, dl_mul hp _ _ (by omega)]
    exact key _ hr
  · intro h
    apply List.ext_getElem?
    intro k
    by_cases hk : k < p
    · rw [small k hk, stp_at hk, h (f + k) (by omega)]
    · rw [List.getElem?_eq_none (by rw [stp_len]; omega), List.getElem?_eq_none (by simp [stp_len]; omega)]
/-- what least_period gives -/
structure LeastRot (st : List Int) (d : Nat) : Prop where
  pos : 1 ≤ d
  le : d ≤ st.length
  dvd : st.length % d = 0
  rot : st = st.drop d ++ st.take d
  least : ∀ e, 1 ≤ e → e < d → ¬ (st.length % e = 0 ∧ st = st.drop e ++ st.take e)
theorem LeastRot.min {v : Nat → Int} {f p d : Nat} (hp : ∀ t, f ≤ t → dl v (t + p) = dl v t) (h0 : 1 ≤ p) (h : LeastRot (stp v f p) d) : ∀ e, 1 ≤ e → (∀ t, f ≤ t → dl v (t + e) = dl v t) → d ≤ e := by
  intro e
  induction e using Nat.strongRecOn with
  | ind e ih =>
    intro he hs
    by_cases hlt : d ≤ e
    · exact hlt
    · exfalso
      have hdp : d ≤ p := by have := h.le; rw [stp_len] at this; exact this
      by_cases hr : p % e = 0
      · exact h.least e he (by omega) ⟨by rw [stp_len]; exact hr, (rot_iff hp h0 (by omega)).mpr hs⟩
      · have hr2 : p % e < e := Nat.mod_lt _ (by omega)
        have hs2 : ∀ t, f ≤ t → dl v (t + p % e) = dl v t := by
          intro t ht
          have e1 := dl_mul hs (p / e) (t + p % e) (by omega)
          have e2 : t + p % e + p / e * e = t + p := by
            have := Nat.mod_add_div p e
            rw [Nat.mul_comm] at this
            omega
          rw [e2, hp t ht] at e1
          exact e1.symm
        have := ih (p % e) hr2 (by omega) hs2
        omega
/-- the form that the constructor finds, its start stepped back to S -/
theorem nf_of {v : Nat → Int} {f p L S : Nat} {g : Int} (hp : Per v p f g) (h0 : 1 ≤ p) (h : LeastRot (stp v f p) L) (hS : Per v L S (v (f + L) - v f)) (hf : S = 0 ∨ v (S - 1 + L) ≠ v (S - 1) + (v (f + L) - v f)) : NF v L (v (f + L) - v f) S where
  pos := h.pos
  per := hS
  least := fun d h1 h2 s hd => by
    have hd2 : ∀ t, f ≤ t → dl v (t + d) = dl v t := by
      intro t ht
      have e1 := dl_mul hp.dl s t ht
      have e2 := dl_mul hp.dl s (t + d) (by omega)
      have hle : s ≤ s * p := Nat.le_mul_of_pos_right s (by omega)
      have e3 := hd (t + s * p) (by omega)
      have e4 : t + s * p + d = t + d + s * p := by omega
      rw [e4, e2, e1] at e3
      exact e3
    have := h.min hp.dl h0 d h1 hd2
    omega
  first := hf
theorem per_first {v : Nat → Int} {f p L : Nat} {g : Int} (hp : Per v p f g) (h0 : 1 ≤ p) (h : LeastRot (stp v f p) L) : Per v L f (v (f + L) - v f) :=
  per_of_dl ((rot_iff hp.dl h0 (by have := h.le; rw [stp_len] at this; exact this)).mp h.rot)
/-- the gain of a round is a multiple of the rise -/
theorem gain_mul {v : Nat → Int} {f p L : Nat} {g : Int} (hp : Per v p f g) (h0 : 1 ≤ p) (h : LeastRot (stp v f p) L) : ∃ q : Nat, p = q * L ∧ 1 ≤ q ∧ g = (q : Int) * (v (f + L) - v f) := by
  have hd := h.dvd
  rw [stp_len] at hd
  refine ⟨p / L, ?_, ?_, ?_⟩
  · have := Nat.mod_add_div p L
    rw [hd, Nat.mul_comm] at this
    omega
  · have hle : L ≤ p := by have := h.le; rw [stp_len] at this; exact this
    exact (Nat.le_div_iff_mul_le (by have := h.pos; omega)).mpr (by omega)
  · have e := per_mul (per_first hp h0 h) (p / L) f (Nat.le_refl _)
    have e2 : p / L * L = p := by
      have := Nat.mod_add_div p L
      rw [hd, Nat.mul_comm] at this
      omega
    rw [e2, hp f (Nat.le_refl _)] at e
    omega
theorem rise_le {g R : Int} {q : Nat} (h : g = (q : Int) * R) (hq : 1 ≤ q) : R.natAbs ≤ g.natAbs := by
  rw [h, Int.natAbs_mul]
  exact Nat.le_mul_of_pos_left _ (by simp; omega)
/-- the sum of the first steps -/
theorem sum_stp (v : Nat → Int) (f : Nat) : ∀ n, ((List.range n).map fun k => dl v (f + k)).sum = v (f + n) - v f
  | 0 => by simp
  | n + 1 => by
    rw [List.range_succ, List.map_append, List.sum_append, sum_stp v f n]
    simp [dl]
    have e : f + n + 1 = f + (n + 1) := by omega
    rw [e]
    omega
theorem stp_take (v : Nat → Int) (f : Nat) {n p : Nat} (h : n ≤ p) : (stp v f p).take n = (List.range n).map fun k => dl v (f + k) := by
  unfold stp
  rw [← List.map_take, List.take_range, Nat.min_eq_left h]
def tab (v : Nat → Int) (n : Nat) : List Int := (List.range n).map v
theorem tab_len (v : Nat → Int) (n : Nat) : (tab v n).length = n := by simp [tab]
theorem tab_at {v : Nat → Int} {n k : Nat} (h : k < n) : (tab v n)[k]? = some (v k) := by
  unfold tab
  rw [List.getElem?_map, List.getElem?_range h]
  rfl
theorem tab_getD {v : Nat → Int} {n k : Nat} (h : k < n) : (tab v n).getD k 0 = v k := by
  rw [List.getD_eq_getElem?_getD, tab_at h]
  rfl
/-- told by its first S + L values, its period and its gain it is the same row -/
theorem val_tab {v : Nat → Int} {L S : Nat} {R : Int} (h1 : 1 ≤ L) (hp : Per v L S R) : ∀ t, val (tab v (S + L)) L R t = v t := by
  intro t
  induction t using Nat.strongRecOn with
  | ind t ih =>
    by_cases ht : t < S + L
    · rw [val_lt (by rw [tab_len]; exact ht), tab_getD ht]
    · have e : t = t - L + L := by omega
      rw [e, val_step h1 (by rw [tab_len]; omega) (by rw [tab_len]; omega), ih (t - L) (by omega), hp (t - L) (by omega)]
theorem val_per {cs : List Int} {p : Nat} {g : Int} (h1 : 1 ≤ p) (h2 : p ≤ cs.length) : Per (val cs p g) p (cs.length - p) g := fun t ht => val_step h1 h2 (by omega)
end RowM

set_option linter.all false
namespace RowM
/-- where v falls below w for the first time -/
def Below (v w : Nat → Int) (k : Nat) : Prop := v k < w k ∧ ∀ t, t < k → w t ≤ v t
theorem Per.sub {v w : Nat → Int} {P s : Nat} {g h : Int} (a : Per v P s g) (b : Per w P s h) : Per (fun t => v t - w t) P s (g - h) := fun t ht => by
  have e1 := a t ht
  have e2 := b t ht
  show v (t + P) - w (t + P) = v t - w t + (g - h)
  omega
theorem Per.add {v w : Nat → Int} {P s : Nat} {g h : Int} (a : Per v P s g) (b : Per w P s h) : Per (fun t => v t + w t) P s (g + h) := fun t ht => by
  have e1 := a t ht
  have e2 := b t ht
  show v (t + P) + w (t + P) = v t + w t + (g + h)
  omega
theorem Per.times {v : Nat → Int} {L S s P : Nat} {R : Int} (a : Per v L S R) (hs : S ≤ s) (hd : L ∣ P) : Per v P s (R * ((P / L : Nat) : Int)) := fun t ht => by
  have e := per_mul a (P / L) t (by omega)
  rw [Nat.div_mul_cancel hd] at e
  rw [e, Int.mul_comm]
theorem Per.later {v : Nat → Int} {P s s' : Nat} {g : Int} (a : Per v P s g) (h : s ≤ s') : Per v P s' g := fun t ht => a t (by omega)
theorem never_below {d : Nat → Int} {P s : Nat} {g : Int} (h : Per d P s g) (hP : 1 ≤ P) (hg : 0 ≤ g) (h0 : ∀ t, t < s + P → 0 ≤ d t) : ∀ t, 0 ≤ d t := by
  intro t
  induction t using Nat.strongRecOn with
  | ind t ih =>
    by_cases ht : t < s + P
    · exact h0 t ht
    · have e := h (t - P) (by omega)
      rw [show t - P + P = t by omega] at e
      have := ih (t - P) (by omega)
      omega
/-- the first index of x's own class at which d is below 0 -/
def fbi (d : Nat → Int) (P : Nat) (g : Int) (x : Nat) : Nat := x + ((d x / (-g)).toNat + 1) * P
theorem fbi_int {d : Nat → Int} {P x : Nat} {g : Int} (hg : g < 0) (h0 : 0 ≤ d x) : ((fbi d P g x : Nat) : Int) = (x : Int) + (d x / (-g) + 1) * P := by
  unfold fbi
  have : 0 ≤ d x / (-g) := Int.ediv_nonneg h0 (by omega)
  rw [Int.natCast_add, Int.natCast_mul, Int.natCast_add, Int.toNat_of_nonneg this]
  rfl
theorem fbi_low {d : Nat → Int} {P s x : Nat} {g : Int} (h : Per d P s g) (hg : g < 0) (hx : s ≤ x) (h0 : 0 ≤ d x) : d (fbi d P g x) < 0 := by
  unfold fbi
  have hq : 0 ≤ d x / (-g) := Int.ediv_nonneg h0 (by omega)
  rw [per_mul h _ x hx, Int.natCast_add, Int.toNat_of_nonneg hq]
  have e := Int.lt_ediv_add_one_mul_self (d x) (show 0 < -g by omega)
  have e2 : (d x / (-g) + 1) * -g = -((d x / (-g) + 1) * g) := Int.mul_neg _ _
  have e3 : ((1 : Nat) : Int) = 1 := rfl
  rw [e3]
  omega
theorem fbi_first {d : Nat → Int} {P s : Nat} {g : Int} (h : Per d P s g) (hP : 1 ≤ P) (hg : g < 0) (h0 : ∀ t, t < s + P → 0 ≤ d t) {b : Nat} (hb : ∀ x, s ≤ x → x < s + P → b ≤ fbi d P g x) : ∀ t, t < b → 0 ≤ d t := by
  intro t ht
  by_cases hl : t < s + P
  · exact h0 t hl
  · have e1 : t = s + (t - s) % P + (t - s) / P * P := by
      have := Nat.mod_add_div (t - s) P
      rw [Nat.mul_comm] at this
      omega
    have hr : (t - s) % P < P := Nat.mod_lt _ (by omega)
    generalize (t - s) % P = x at *
    generalize (t - s) / P = q at *
    have hx := hb (s + x) (by omega) (by omega)
    have hd0 := h0 (s + x) (by omega)
    have hq0 : 0 ≤ d (s + x) / (-g) := Int.ediv_nonneg hd0 (by omega)
    have hlt : q * P < ((d (s + x) / (-g)).toNat + 1) * P := by
      unfold fbi at hx
      omega
    have hq : q < (d (s + x) / (-g)).toNat + 1 := Nat.lt_of_mul_lt_mul_right hlt
    rw [e1, per_mul h q (s + x) (by omega)]
    have e3 : (q : Int) ≤ d (s + x) / (-g) := by omega
    have e4 := (Int.le_ediv_iff_mul_le (show 0 < -g by omega)).mp e3
    have e5 : (q : Int) * -g = -((q : Int) * g) := Int.mul_neg _ _
    omega
/-- two rows that agree on a round of each are one -/
theorem agree_all {v w : Nat → Int} {p q s : Nat} {g h : Int} (a : Per v p s g) (b : Per w q s h) (p1 : 1 ≤ p) (q1 : 1 ≤ q) (e : ∀ t, t ≤ s + p + q → v t = w t) : ∀ t, v t = w t := by
  have ed : ∀ t, t < s + p + q → dl v t = dl w t := fun t ht => by
    unfold dl
    rw [e t (by omega), e (t + 1) (by omega)]
  have aq : ∀ t, s ≤ t → dl v (t + q) = dl v t := by
    intro t ht
    have e1 : t = s + (t - s) % p + (t - s) / p * p := by
      have := Nat.mod_add_div (t - s) p
      rw [Nat.mul_comm] at this
      omega
    have hr : (t - s) % p < p := Nat.mod_lt _ (by omega)
    generalize (t - s) % p = x at *
    generalize (t - s) / p = n at *
    rw [e1, dl_mul a.dl n (s + x) (by omega), show s + x + n * p + q = s + x + q + n * p by omega, dl_mul a.dl n (s + x + q) (by omega)]
    rw [ed (s + x + q) (by omega), ed (s + x) (by omega)]
    exact b.dl _ (by omega)
  have all : ∀ t, s ≤ t → dl v t = dl w t := by
    intro t ht
    have e1 : t = s + (t - s) % q + (t - s) / q * q := by
      have := Nat.mod_add_div (t - s) q
      rw [Nat.mul_comm] at this
      omega
    have hr : (t - s) % q < q := Nat.mod_lt _ (by omega)
    generalize (t - s) % q = x at *
    generalize (t - s) / q = n at *
    rw [e1, dl_mul aq n (s + x) (by omega), dl_mul b.dl n (s + x) (by omega)]
    exact ed _ (by omega)
  intro t
  induction t with
  | zero => exact e 0 (by omega)
  | succ t ih =>
    by_cases ht : t + 1 ≤ s + p + q
    · exact e _ ht
    · have := all t (by omega)
      unfold dl at this
      omega
theorem lcm_le (a b : Nat) : Nat.lcm a b ≤ a * b := Nat.div_le_self _ _
/-- one form told means one row -/
theorem row_eq {v w : Nat → Int} {L L' S S' : Nat} {R R' : Int} (a : NF v L R S) (b : NF w L' R' S') : (tab v (S + L) = tab w (S' + L') ∧ L = L' ∧ R = R') ↔ ∀ t, v t = w t := by
  constructor
  · rintro ⟨h1, rfl, rfl⟩ t
    have hl : S + L = S' + L := by
      have := congrArg List.length h1
      rwa [tab_len, tab_len] at this
    obtain rfl : S = S' := by omega
    rw [← val_tab a.pos a.per t, ← val_tab b.pos b.per t, h1]
  · intro h
    obtain rfl : v = w := funext h
    obtain ⟨rfl, rfl, rfl⟩ := a.unique b
    exact ⟨rfl, rfl, rfl⟩
theorem below_is {v w : Nat → Int} {k : Nat} (h : Below v w k) {k0 : Nat} (h0 : ∀ t, t < k0 → v t = w t) (hk : v k0 < w k0) : k = k0 := by
  rcases Nat.lt_trichotomy k k0 with e | e | e
  · have := h0 k e
    have := h.1
    omega
  · exact e
  · have := h.2 k0 e
    omega
theorem below_ge {v w : Nat → Int} {k : Nat} (h : Below v w k) {k0 : Nat} (h0 : ∀ t, t < k0 → v t = w t) : k0 ≤ k := by
  by_cases e : k < k0
  · have := h0 k e
    have := h.1
    omega
  · omega
theorem getD_scale (f : Int) : ∀ (cs : List Int) (k : Nat), (cs.map (· * f)).getD k 0 = cs.getD k 0 * f
  | [], _ => by simp
  | x :: cs, 0 => by simp
  | x :: cs, k + 1 => by simpa using getD_scale f cs k
theorem val_scale (cs : List Int) (p : Nat) (g f : Int) (t : Nat) : val (cs.map (· * f)) p (g * f) t = val cs p g t * f := by
  unfold val
  rw [List.length_map]
  by_cases h : t < cs.length
  · rw [if_pos h, if_pos h, getD_scale]
  · rw [if_neg h, if_neg h, getD_scale, Int.add_mul, Int.mul_assoc]
theorem getD_bd {cs : List Int} {B : Nat} (hs : ∀ x ∈ cs, x.natAbs ≤ B) (k : Nat) : (cs.getD k 0).natAbs ≤ B := by
  rw [List.getD_eq_getElem?_getD]
  cases e : cs[k]? with
  | none => simp
  | some x => exact hs x (List.mem_of_getElem? e)
theorem val_bd {cs : List Int} {p B : Nat} {g : Int} (hs : ∀ x ∈ cs, x.natAbs ≤ B) (hg : g.natAbs ≤ B) (t : Nat) : (val cs p g t).natAbs ≤ B * (t + 2) := by
  have hB : B ≤ B * (t + 2) := Nat.le_mul_of_pos_right B (by omega)
  unfold val
  by_cases h : t < cs.length
  · rw [if_pos h]
    exact Nat.le_trans (getD_bd hs t) hB
  · rw [if_neg h]
    have h1 := getD_bd hs (t - ((t - cs.length) / p + 1) * p)
    have hq : (t - cs.length) / p ≤ t := Nat.le_trans (Nat.div_le_self _ _) (by omega)
    generalize (t - cs.length) / p = q at *
    generalize cs.getD (t - (q + 1) * p) 0 = x at *
    have h2 : (((q + 1 : Nat) : Int) * g).natAbs ≤ (t + 1) * B := by
      rw [Int.natAbs_mul]
      exact Nat.mul_le_mul (by omega) hg
    have h3 : B * (t + 2) = B + (t + 1) * B := by
      rw [Nat.mul_comm B (t + 2), show t + 2 = (t + 1) + 1 by omega, Nat.succ_mul]
      omega
    generalize ((q + 1 : Nat) : Int) * g = y at *
    generalize (t + 1) * B = z at *
    omega
theorem below_bd {v w : Nat → Int} {P s B : Nat} {g f : Int} (per : Per (fun t => v t - w t) P s g) (hf : 1 ≤ f) (hg : g ≤ -f) (hs : v s - w s ≤ f * B) {k : Nat} (h : Below v w k) : k ≤ s + (B + 1) * P := by
  by_cases hk : k ≤ s + (B + 1) * P
  · exact hk
  · have h1 := h.2 (s + (B + 1) * P) (by omega)
    have h2 : v (s + (B + 1) * P) - w (s + (B + 1) * P) = v s - w s + ((B + 1 : Nat) : Int) * g := per_mul per (B + 1) s (Nat.le_refl _)
    have h3 : ((B + 1 : Nat) : Int) * g ≤ ((B + 1 : Nat) : Int) * -f := Int.mul_le_mul_of_nonneg_left hg (by omega)
    have h4 : ((B + 1 : Nat) : Int) * -f = -(f * B) - f := by
      rw [Int.mul_neg, Int.natCast_add, Int.add_mul, Int.mul_comm (B : Int) f]
      simp
      omega
    omega
theorem falls {v w : Nat → Int} {P s B : Nat} {g f : Int} (per : Per (fun t => v t - w t) P s g) (hf : 1 ≤ f) (hg : g ≤ -f) (hs : v s - w s ≤ f * B) : v (s + (B + 1) * P) < w (s + (B + 1) * P) := by
  have h2 : v (s + (B + 1) * P) - w (s + (B + 1) * P) = v s - w s + ((B + 1 : Nat) : Int) * g := per_mul per (B + 1) s (Nat.le_refl _)
  have h3 : ((B + 1 : Nat) : Int) * g ≤ ((B + 1 : Nat) : Int) * -f := Int.mul_le_mul_of_nonneg_left hg (by omega)
  have h4 : ((B + 1 : Nat) : Int) * -f = -(f * B) - f := by
    rw [Int.mul_neg, Int.natCast_add, Int.add_mul, Int.mul_comm (B : Int) f]
    simp
    omega
  omega
theorem Below.unique {v w : Nat → Int} {j k : Nat} (a : Below v w j) (b : Below v w k) : j = k := by
  rcases Nat.lt_trichotomy j k with e | e | e
  · have := b.2 j e
    have := a.1
    omega
  · exact e
  · have := a.2 k e
    have := b.1
    omega
/-- u t is the lowest of v from t on -/
def Low (v u : Nat → Int) : Prop := ∀ t, (∀ s, t ≤ s → u t ≤ v s) ∧ ∃ s, t ≤ s ∧ u t = v s
theorem Low.unique {v u w : Nat → Int} (a : Low v u) (b : Low v w) : u = w := by
  funext t
  obtain ⟨s, hs, e⟩ := (a t).2
  obtain ⟨s', hs', e'⟩ := (b t).2
  have h1 := (a t).1 s' hs'
  have h2 := (b t).1 s hs
  omega
theorem Low.per {v u : Nat → Int} {L S : Nat} {R : Int} (h : Low v u) (p : Per v L S R) : Per u L S R := by
  intro t ht
  obtain ⟨s, hs, e⟩ := (h t).2
  obtain ⟨s', hs', e'⟩ := (h (t + L)).2
  have h1 := (h (t + L)).1 (s + L) (by omega)
  have h2 := (h t).1 (s' - L) (by omega)
  have h3 := p s (by omega)
  have h4 := p (s' - L) (by omega)
  rw [show s' - L + L = s' by omega] at h4
  omega
theorem Low.mono {v u : Nat → Int} (h : Low v u) {t t' : Nat} (ht : t ≤ t') : u t ≤ u t' := by
  obtain ⟨s, hs, e⟩ := (h t').2
  have := (h t).1 s (by omega)
  omega
theorem Low.le {v u : Nat → Int} (h : Low v u) (t : Nat) : u t ≤ v t := (h t).1 t (Nat.le_refl _)
/-- the lowest of v over t .. t + n -/
def lowN (v : Nat → Int) : Nat → Nat → Int
  | 0, t => v t
  | n + 1, t => min (v t) (lowN v n (t + 1))
theorem lowN_le (v : Nat → Int) : ∀ (n t s : Nat), t ≤ s → s ≤ t + n → lowN v n t ≤ v s
  | 0, t, s, h1, h2 => by
    obtain rfl : s = t := by omega
    exact Int.le_refl _
  | n + 1, t, s, h1, h2 => by
    show min (v t) (lowN v n (t + 1)) ≤ v s
    by_cases e : s = t
    · subst e; omega
    · have := lowN_le v n (t + 1) s (by omega) (by omega)
      omega
theorem lowN_at (v : Nat → Int) : ∀ (n t : Nat), ∃ s, t ≤ s ∧ s ≤ t + n ∧ lowN v n t = v s
  | 0, t => ⟨t, by omega, by omega, rfl⟩
  | n + 1, t => by
    obtain ⟨s, h1, h2, e⟩ := lowN_at v n (t + 1)
    by_cases h : v t ≤ lowN v n (t + 1)
    · exact ⟨t, by omega, by omega, by show min (v t) (lowN v n (t + 1)) = v t; omega⟩
    · exact ⟨s, by omega, by omega, by show min (v t) (lowN v n (t + 1)) = v s; omega⟩
/-- a round behind t and S is enough -/
theorem low_round {v : Nat → Int} {L S : Nat} {R : Int} (p : Per v L S R) (L1 : 1 ≤ L) (hR : 0 ≤ R) {t e : Nat} (he : S + L ≤ e + 1) (ht : t + L ≤ e + 1) : ∀ s, t ≤ s → ∃ s', t ≤ s' ∧ s' ≤ e ∧ v s' ≤ v s := by
  intro s
  induction s using Nat.strongRecOn with
  | ind s ih =>
    intro hs
    by_cases h : s ≤ e
    · exact ⟨s, hs, h, Int.le_refl _⟩
    · obtain ⟨s', h1, h2, h3⟩ := ih (s - L) (by omega) (by omega)
      have := p (s - L) (by omega)
      rw [show s - L + L = s by omega] at this
      exact ⟨s', h1, h2, by omega⟩
theorem lowN_low {v u : Nat → Int} {L S : Nat} {R : Int} (p : Per v L S R) (L1 : 1 ≤ L) (hR : 0 ≤ R) {t n : Nat} (he : S + L ≤ t + n + 1) (ht : L ≤ n + 1) (h : Low v u) : lowN v n t = u t := by
  obtain ⟨s, h1, e⟩ := (h t).2
  obtain ⟨s', g1, g2, g3⟩ := low_round p L1 hR (t := t) (e := t + n) he (by omega) s h1
  have h2 := lowN_le v n t s' g1 g2
  obtain ⟨s2, k1, k2, k3⟩ := lowN_at v n t
  have h3 := (h t).1 s2 k1
  omega
/-- there is such a row -/
theorem low_is {v : Nat → Int} {L S : Nat} {R : Int} (p : Per v L S R) (L1 : 1 ≤ L) (hR : 0 ≤ R) : ∃ u, Low v u := by
  refine ⟨fun t => lowN v (S + L) t, fun t => ⟨fun s hs => ?_, ?_⟩⟩
  · obtain ⟨s', g1, g2, g3⟩ := low_round p L1 hR (t := t) (e := t + (S + L)) (by omega) (by omega) s hs
    have := lowN_le v (S + L) t s' g1 g2
    show lowN v (S + L) t ≤ v s
    omega
  · obtain ⟨s, h1, _, e⟩ := lowN_at v (S + L) t
    exact ⟨s, h1, e⟩
end RowM

set_option Elab.async false
set_option linter.all false
set_option maxRecDepth 100000
set_option maxHeartbeats 4000000
namespace LW
open PySem PySem.Spec PyProof.Rows L2 DL RowM
open He (ga ma)
/-- numbers of a size that may be multiplied -/
def Sz (i : Int) : Prop := i.natAbs < 2 ^ 3000
abbrev il (ns : List Int) : D := .lst (ns.map D.int)
def rowF (v : Nat → Int) (L : Nat) (R : Int) (S : Nat) : List (Str × D) := [("cells", il (tab v (S + L))), ("period", .int L), ("gain", .int R), ("start", .int S)]
def rowD (K : Fr0) (v : Nat → Int) (L : Nat) (R : Int) (S : Nat) : D := .ins (ga K "Row") (rowF v L R S)
def sp_value_at (_ : Fr0) : DSp := fun ds m Q _ => ∃ (cs : List Int) (p g i : Int), ds = [il cs, .int p, .int g, .int i] ∧ (1 ≤ p ∧ p ≤ cs.length) ∧ cs.length ≤ 1000000 ∧ Sz g ∧ (0 ≤ i ∧ Sz i) ∧ Q (.int (val cs p.toNat g i.toNat)) m
def sp_least_period (_ : Fr0) : DSp := fun ds m Q _ => ∃ st : List Int, ds = [il st] ∧ (1 ≤ st.length ∧ st.length ≤ 1000000) ∧ ∀ d : Nat, LeastRot st d → Q (.int d) m
def sp_normal_form (_ : Fr0) : DSp := fun ds m Q _ => ∃ (cs : List Int) (p g : Int), ds = [il cs, .int p, .int g] ∧ (1 ≤ p ∧ p ≤ cs.length) ∧ cs.length ≤ 100000 ∧ Sz g ∧
  ∀ (L : Nat) (R : Int) (S : Nat), NF (val cs p.toNat g) L R S → (S : Int) ≤ cs.length - p → (L : Int) ≤ p → R.natAbs ≤ g.natAbs → Q (.tup [il (tab (val cs p.toNat g) (S + L)), .int L, .int R, .int S]) m
def sp_Row_init (K : Fr0) : DSp := fun ds m Q _ => ∃ (a : Addr) (cs : List Int) (p g : Int), ds = [.ref a, il cs, .int p, .int g] ∧ m a = some (.ins (ga K "Row") []) ∧ (1 ≤ p ∧ p ≤ cs.length) ∧ cs.length ≤ 100000 ∧ Sz g ∧
  ∀ (L : Nat) (R : Int) (S : Nat), NF (val cs p.toNat g) L R S → (S : Int) ≤ cs.length - p → (L : Int) ≤ p → R.natAbs ≤ g.natAbs → Q .non (mset m a (.ins (ga K "Row") (rowF (val cs p.toNat g) L R S)))
def sp_Row_head (K : Fr0) : DSp := fun ds m Q _ => ∃ (x : D) (v : Nat → Int) (L : Nat) (R : Int) (S : Nat), ds = [x] ∧ x = rowD K v L R S ∧ Q (il (tab v (S + L))) m
def sp_Row_eq (K : Fr0) : DSp := fun ds m Q _ => ∃ (v v' : Nat → Int) (L L' : Nat) (R R' : Int) (S S' : Nat), ds = [rowD K v L R S, rowD K v' L' R' S'] ∧ Q (.bl (decide (tab v (S + L) = tab v' (S' + L')) && (decide ((L : Int) = L') && decide (R = R')))) m
def cellAt (ns : List Int) (i : Int) : Int := if i < ns.length then ns.getD i.toNat 0 else 0
def sp_law_cell (_ : Fr0) : DSp := fun ds m Q _ => ∃ (ns : List Int) (i : Int), ds = [.rdl (ns.map D.int), .int i] ∧ 0 ≤ i ∧ Q (.int (cellAt ns i)) m
def pool (c v k : Int) : MO := .lst [.int c, .int v, .int k]
def sp_law_source (_ : Fr0) : DSp := fun ds m Q _ => ∃ c : Int, ds = [.int c] ∧ ∀ a, m a = none → Q (.ref a) (mset m a (pool c c 0))
def sp_law_draw (_ : Fr0) : DSp := fun ds m Q _ => ∃ (a : Addr) (lim c v k : Int), ds = [.ref a, .int lim] ∧ m a = some (pool c v k) ∧ (1 ≤ lim ∧ lim.natAbs < 2 ^ 200) ∧ (0 ≤ k ∧ k ≤ 100000) ∧
  ∀ r v', 0 ≤ r → r < lim → Q (.int r) (mset m a (pool c v' (k + 1)))
def sp_law_is_integer (_ : Fr0) : DSp := fun ds m Q _ => ∃ i : Int, ds = [.int i] ∧ Q (.bl true) m
structure Rk (v : Nat → Int) (L : Nat) (R : Int) (S : Nat) : Prop where
  pos : 1 ≤ L
  per : Per v L S R
  len : S + L ≤ 100000
  sz : Sz R
def sp_Row_call (K : Fr0) : DSp := fun ds m Q _ => ∃ (v : Nat → Int) (L : Nat) (R : Int) (S : Nat) (i : Int), ds = [rowD K v L R S, .int i] ∧ Rk v L R S ∧ (0 ≤ i ∧ Sz i) ∧ Q (.int (v i.toNat)) m
/-- a tick of a calendar that is open -/
def onB (z : Str) (i : Nat) : Bool := z.cps.toList[i]? == some 49
def cntS (z : Str) : Int := PySem.Txt.count z "1"
/-- the open ticks of t ticks from b on -/
def opn (z : Str) (b t : Nat) : Int := ((t / z.length : Nat) : Int) * cntS z + (((List.range (t % z.length)).filter fun k => onB z ((b + k) % z.length)).length : Nat)
def inS (j i : Str) : Bool := !(Builtin.Str.occurrences j i 0 j.length 1).isEmpty
def calB (z : Str) : Bool := decide (1 ≤ z.length ∧ z.length ≤ 24) && inS z "1" && z.cps.toList.all fun c => c == 48 || c == 49
def badC (K : Fr0) (z : Str) : XD := ⟨ga K "BadCalendar", [("calendar", .str z)]⟩
def badS (K : Fr0) (s : Int) : XD := ⟨ga K "OutOfRange", [("value", .int s), ("what", .str "speed")]⟩
def sp_check_speed (K : Fr0) : DSp := fun ds m Q E => ∃ s : Int, ds = [.int s] ∧ (1 ≤ s ∧ s ≤ 99 → Q .non m) ∧ (¬ (1 ≤ s ∧ s ≤ 99) → E (badS K s) m)
def sp_check_calendar (K : Fr0) : DSp := fun ds m Q E => ∃ z : Str, ds = [.str z] ∧ z.length ≤ 1000 ∧ (calB z = true → Q .non m) ∧ (calB z = false → E (badC K z) m)
def sp_open_ticks (_ : Fr0) : DSp := fun ds m Q _ => ∃ (z : Str) (b t : Nat), ds = [.str z, .int b, .int t] ∧ calB z = true ∧ b ≤ 1000 ∧ t < 2 ^ 200 ∧ Q (.int (opn z b t)) m
/-- the least of the begins -/
def IsLow (z : Str) (t : Nat) (x : Int) : Prop := (∃ b, b < z.length ∧ opn z b t = x) ∧ ∀ b, b < z.length → x ≤ opn z b t
def sp_calendar_row (K : Fr0) : DSp := fun ds m Q E => ∃ (z : Str) (s : Int), ds = [.str z, .int s] ∧ z.length ≤ 1000 ∧ (calB z = false → E (badC K z) m) ∧ (calB z = true → ¬ (1 ≤ s ∧ s ≤ 99) → E (badS K s) m) ∧
  (calB z = true → 1 ≤ s → s ≤ 99 → ∀ (cs : List Int) (L : Nat) (R : Int) (S : Nat), cs.length = z.length → (∀ t, t < z.length → ∃ x, IsLow z t x ∧ cs[t]? = some (s * x)) → NF (val cs z.length (s * cntS z)) L R S → S = 0 → L ≤ 24 → R.natAbs ≤ (s * cntS z).natAbs → Q (rowD K (val cs z.length (s * cntS z)) L R S) m)
def IsWorst (z : Str) (t b : Nat) : Prop := b < z.length ∧ IsLow z t (opn z b t) ∧ ∀ c, c < b → opn z c t ≠ opn z b t
def sp_worst_begin (K : Fr0) : DSp := fun ds m Q E => ∃ (z : Str) (t : Nat), ds = [.str z, .int t] ∧ z.length ≤ 1000 ∧ t < 2 ^ 200 ∧ (calB z = false → E (badC K z) m) ∧ (calB z = true → ∀ b : Nat, IsWorst z t b → Q (.int b) m)
def sp_law_open (K : Fr0) : DSp := sp_open_ticks K
def sp_law_any (_ : Fr0) : DSp := fun ds m Q _ => ∃ (a : Addr) (c v k : Int), ds = [.ref a] ∧ m a = some (pool c v k) ∧ (0 ≤ k ∧ k ≤ 1000) ∧ ∀ (z : Str) (v' k' : Int), calB z = true → 0 ≤ k' → k' ≤ 2000 → Q (.str z) (mset m a (pool c v' k'))
def sp_law_outcome (K : Fr0) : DSp := fun ds m Q _ => ∃ (z : Str) (s : Int), ds = [.str z, .int s] ∧ z.length ≤ 1000 ∧ (calB z = false → Q (.tup [.str "calendar", .str z]) m) ∧ (calB z = true → ¬ (1 ≤ s ∧ s ≤ 99) → Q (.tup [.str "speed", .int s]) m) ∧
  (calB z = true → 1 ≤ s → s ≤ 99 → ∀ (cs : List Int) (L : Nat) (R : Int) (S : Nat), cs.length = z.length → (∀ t, t < z.length → ∃ x, IsLow z t x ∧ cs[t]? = some (s * x)) → NF (val cs z.length (s * cntS z)) L R S → S = 0 → L ≤ 24 → R.natAbs ≤ (s * cntS z).natAbs → Q (rowD K (val cs z.length (s * cntS z)) L R S) m)
def sp_law_worst (_ : Fr0) : DSp := fun ds m Q _ => ∃ (z : Str) (t : Nat), ds = [.str z, .int t] ∧ z.length ≤ 1000 ∧ t < 2 ^ 200 ∧ (calB z = false → Q (.tup [.str "calendar", .str z]) m) ∧ (calB z = true → ∀ b : Nat, IsWorst z t b → Q (.int b) m)
def sp_law_refused (_ : Fr0) : DSp := fun ds m Q _ => ∃ (a : Addr) (c v k : Int) (z : Str) (s : Int), ds = [.ref a, .str z, .int s] ∧ m a = some (pool c v k) ∧ (0 ≤ k ∧ k ≤ 3000) ∧ calB z = true ∧ (1 ≤ s ∧ s ≤ 99) ∧ ∀ (v' k' : Int), 0 ≤ k' → k' ≤ 4000 → Q (.bl true) (mset m a (pool c v' k'))
end LW

set_option Elab.async false
set_option linter.all false
set_option maxRecDepth 100000
set_option maxHeartbeats 4000000
namespace LW
open PySem PySem.Spec PyProof.Rows L2 DL RowM
open He (ga ma)
def top (i : Nat) : Stmt := PySem.Challenge.pw_walkdues_k36_calendar_rows.main.body.getD i (.Pass ⟨0, 0, 0, 0⟩)
/-! OutOfRange.__init__ -/
abbrev s_OutOfRange_init : Stmt := inClass (top 3) 0
abbrev nm_OutOfRange_init : List Str := ["self", "what", "value"]
theorem sc_OutOfRange_init : FnScope nm_OutOfRange_init ["self", "what", "value"] (defScope s_OutOfRange_init) := ⟨rfl, rfl, rfl, by decide +kernel, rfl, by decide +kernel, by decide +kernel⟩

/-! BadCalendar.__init__ -/
abbrev s_BadCalendar_init : Stmt := inClass (top 6) 0
abbrev nm_BadCalendar_init : List Str := ["self", "calendar"]
theorem sc_BadCalendar_init : FnScope nm_BadCalendar_init ["self", "calendar"] (defScope s_BadCalendar_init) := ⟨rfl, rfl, rfl, by decide +kernel, rfl, by decide +kernel, by decide +kernel⟩

/-! value_at -/
abbrev s_value_at : Stmt := top 9
abbrev nm_value_at : List Str := ["cells", "period", "gain", "index", "laps"]
theorem sc_value_at : FnScope nm_value_at ["cells", "period", "gain", "index"] (defScope s_value_at) := ⟨rfl, rfl, rfl, by decide +kernel, rfl, by decide +kernel, by decide +kernel⟩
def t_value_at (K : PySem.W.Frag) (WD : DWX) : DTS :=
    dSeq (dIfS (dTest (dOp dLt (dVar 3) (dCB dLen (daCons (dVar 0) daNil)))) (dRet (dOp dIx (dVar 0) (dVar 3))) dNext)
    (dSeq (dSet 4 (dOp (dAdd false) (dOp dDiv (dOp dSub (dVar 3) (dCB dLen (daCons (dVar 0) daNil))) (dVar 1)) (dC (.int 1))))
    (dRet (dOp (dAdd false) (dOp dIx (dVar 0) (dOp dSub (dVar 3) (dOp (dMul false) (dVar 4) (dVar 1)))) (dOp (dMul false) (dVar 4) (dVar 2)))))

/-! least_period -/
abbrev s_least_period : Stmt := top 12
abbrev nm_least_period : List Str := ["steps", "size", "period"]
theorem sc_least_period : FnScope nm_least_period ["steps"] (defScope s_least_period) := ⟨rfl, rfl, rfl, by decide +kernel, rfl, by decide +kernel, by decide +kernel⟩
def t_least_period (K : PySem.W.Frag) (WD : DWX) : DTS :=
    dSeq (dSet 1 (dCB dLen (daCons (dVar 0) daNil)))
    (dSeq (dFor (diR2 (daCons (dC (.int 1)) (daCons (dOp (dAdd false) (dVar 1) (dC (.int 1))) daNil))) (gN 2) (dIfS (dAnd (dTest (dOp dEq (dOp dMod (dVar 1) (dVar 2)) (dC (.int 0)))) (dTest (dOp dEq (dVar 0) (dOp (dAdd false) (dSlice false (dVar 0) (doSome (dVar 2)) doNone) (dSlice false (dVar 0) doNone (doSome (dVar 2))))))) (dRet (dVar 2)) dNext))
    (dRet (dVar 1)))

/-! normal_form -/
abbrev s_normal_form : Stmt := top 13
abbrev nm_normal_form : List Str := ["head", "period", "gain", "first", "circle", "k", "steps", "least", "rise", "start", "cells"]
theorem sc_normal_form : FnScope nm_normal_form ["head", "period", "gain"] (defScope s_normal_form) := ⟨rfl, rfl, rfl, by decide +kernel, rfl, by decide +kernel, by decide +kernel⟩
def t_normal_form (K : PySem.W.Frag) (WD : DWX) : DTS :=
    dSeq (dSet 3 (dOp dSub (dCB dLen (daCons (dVar 0) daNil)) (dVar 1)))
    (dSeq (dSet 4 (dLc false (diR1 (daCons (dOp (dAdd false) (dVar 1) (dC (.int 1))) daNil)) (.one 5) [5] dYes (dCall (sp_value_at K) WD0 [] (daCons (dVar 0) (daCons (dVar 1) (daCons (dVar 2) (daCons (dOp (dAdd false) (dVar 3) (dVar 5)) daNil)))))))
    (dSeq (dSet 6 (dLc false (diR1 (daCons (dVar 1) daNil)) (.one 5) [5] dYes (dOp dSub (dOp dIx (dVar 4) (dOp (dAdd false) (dVar 5) (dC (.int 1)))) (dOp dIx (dVar 4) (dVar 5)))))
    (dSeq (dSet 7 (dCall (sp_least_period K) WD [] (daCons (dVar 6) daNil)))
    (dSeq (dSet 8 (dCB dSum (daCons (dSlice false (dVar 6) doNone (doSome (dVar 7))) daNil)))
    (dSeq (dSet 9 (dVar 3))
    (dSeq (dWhile (dAnd (dTest (dOp dGt (dVar 9) (dC (.int 0)))) (dTest (dOp dEq (dOp (dAdd false) (dOp dIx (dVar 0) (dOp dSub (dVar 9) (dC (.int 1)))) (dVar 8)) (dCall (sp_value_at K) WD [] (daCons (dVar 0) (daCons (dVar 1) (daCons (dVar 2) (daCons (dOp (dAdd false) (dOp dSub (dVar 9) (dC (.int 1))) (dVar 7)) daNil)))))))) (dSet 9 (dOp dSub (dVar 9) (dC (.int 1)))))
    (dSeq (dSet 10 (dLc false (diR1 (daCons (dOp (dAdd false) (dVar 9) (dVar 7)) daNil)) (.one 5) [5] dYes (dCall (sp_value_at K) WD0 [] (daCons (dVar 0) (daCons (dVar 1) (daCons (dVar 2) (daCons (dVar 5) daNil)))))))
    (dRet (dTup (daCons (dVar 10) (daCons (dVar 7) (daCons (dVar 8) (daCons (dVar 9) daNil)))))))))))))

/-! Row.__init__ -/
abbrev s_Row_init : Stmt := inClass (top 16) 0
abbrev nm_Row_init : List Str := ["self", "head", "period", "gain", "cells", "least", "rise", "start"]
theorem sc_Row_init : FnScope nm_Row_init ["self", "head", "period", "gain"] (defScope s_Row_init) := ⟨rfl, rfl, rfl, by decide +kernel, rfl, by decide +kernel, by decide +kernel⟩
def t_Row_init (K : PySem.W.Frag) (WD : DWX) : DTS :=
    dSeq (dIfS (dOr (dTest (dOp dLt (dVar 2) (dC (.int 1)))) (dTest (dOp dLt (dCB dLen (daCons (dVar 1) daNil)) (dVar 2)))) dNever dNext)
    (dSeq (dAsg (dCall (sp_normal_form K) WD [] (daCons (dCB (dList false) (daCons (dVar 1) daNil)) (daCons (dVar 2) (daCons (dVar 3) daNil)))) (gT 4 (gsCons (gN 4) (gsCons (gN 5) (gsCons (gN 6) (gsCons (gN 7) gsNil))))))
    (dSeq (dFldS K (dVar 0) (dVar 4) "cells")
    (dSeq (dFldS K (dVar 0) (dVar 5) "period")
    (dSeq (dFldS K (dVar 0) (dVar 6) "gain")
    (dFldS K (dVar 0) (dVar 7) "start")))))

/-! Row.head -/
abbrev s_Row_head : Stmt := inClass (top 16) 1
abbrev nm_Row_head : List Str := ["self"]
theorem sc_Row_head : FnScope nm_Row_head ["self"] (defScope s_Row_head) := ⟨rfl, rfl, rfl, by decide +kernel, rfl, by decide +kernel, by decide +kernel⟩
def t_Row_head (K : PySem.W.Frag) (WD : DWX) : DTS :=
    dRet (dCB (dList false) (daCons (dFld K (dVar 0) "cells") daNil))

/-! Row.__call__ -/
abbrev s_Row_call : Stmt := inClass (top 16) 4
abbrev nm_Row_call : List Str := ["self", "index"]
theorem sc_Row_call : FnScope nm_Row_call ["self", "index"] (defScope s_Row_call) := ⟨rfl, rfl, rfl, by decide +kernel, rfl, by decide +kernel, by decide +kernel⟩
def t_Row_call (K : PySem.W.Frag) (WD : DWX) : DTS :=
    dSeq (dIfS (dTest (dOp dLt (dVar 1) (dC (.int 0)))) dNever dNext)
    (dRet (dCall (sp_value_at K) WD [] (daCons (dFld K (dVar 0) "cells") (daCons (dFld K (dVar 0) "period") (daCons (dFld K (dVar 0) "gain") (daCons (dVar 1) daNil))))))

/-! Row.__eq__ -/
abbrev s_Row_eq : Stmt := inClass (top 16) 5
abbrev nm_Row_eq : List Str := ["self", "other"]
theorem sc_Row_eq : FnScope nm_Row_eq ["self", "other"] (defScope s_Row_eq) := ⟨rfl, rfl, rfl, by decide +kernel, rfl, by decide +kernel, by decide +kernel⟩
def t_Row_eq (K : PySem.W.Frag) (WD : DWX) : DTS :=
    dRet (dAndV (dCB (dIsi K) (daCons (dVar 1) (daCons (dC (.ref (ga K "Row"))) daNil))) (dAndV (dOp dEq (dFld K (dVar 0) "cells") (dFld K (dVar 1) "cells")) (dAndV (dOp dEq (dFld K (dVar 0) "period") (dFld K (dVar 1) "period")) (dOp dEq (dFld K (dVar 0) "gain") (dFld K (dVar 1) "gain")))))

/-! check_speed -/
abbrev s_check_speed : Stmt := top 19
abbrev nm_check_speed : List Str := ["speed"]
theorem sc_check_speed : FnScope nm_check_speed ["speed"] (defScope s_check_speed) := ⟨rfl, rfl, rfl, by decide +kernel, rfl, by decide +kernel, by decide +kernel⟩
def t_check_speed (K : PySem.W.Frag) (WD : DWX) : DTS :=
    dIfS (dNot (dTest (dChain dLe dLe (dC (.int 1)) (dVar 0) (dC (.int 99))))) (dRaise (ga K "OutOfRange") ["what", "value"] WD (daCons (dC (.str "speed")) (daCons (dVar 0) daNil))) dNext

/-! check_calendar -/
abbrev s_check_calendar : Stmt := top 22
abbrev nm_check_calendar : List Str := ["calendar", "sign"]
theorem sc_check_calendar : FnScope nm_check_calendar ["calendar"] (defScope s_check_calendar) := ⟨rfl, rfl, rfl, by decide +kernel, rfl, by decide +kernel, by decide +kernel⟩
def t_check_calendar (K : PySem.W.Frag) (WD : DWX) : DTS :=
    dSeq (dIfS (dOr (dNot (dTest (dChain dLe dLe (dC (.int 1)) (dCB dLen (daCons (dVar 0) daNil)) (dC (.int 24))))) (dTest (dOp (dIn true) (dC (.str "1")) (dVar 0)))) (dRaise (ga K "BadCalendar") ["calendar"] WD (daCons (dVar 0) daNil)) dNext)
    (dFor (diS (dVar 0)) (gN 1) (dIfS (dTest (dOp (dIn true) (dVar 1) (dTup (daCons (dC (.str "0")) (daCons (dC (.str "1")) daNil))))) (dRaise (ga K "BadCalendar") ["calendar"] WD (daCons (dVar 0) daNil)) dNext))

/-! open_ticks -/
abbrev s_open_ticks : Stmt := top 23
abbrev nm_open_ticks : List Str := ["calendar", "begin", "ticks", "size", "laps", "rest", "part", "k"]
theorem sc_open_ticks : FnScope nm_open_ticks ["calendar", "begin", "ticks"] (defScope s_open_ticks) := ⟨rfl, rfl, rfl, by decide +kernel, rfl, by decide +kernel, by decide +kernel⟩
def t_open_ticks (K : PySem.W.Frag) (WD : DWX) : DTS :=
    dSeq (dSet 3 (dCB dLen (daCons (dVar 0) daNil)))
    (dSeq (dAsg (dCB dDivmod (daCons (dVar 2) (daCons (dVar 3) daNil))) (gT 2 (gsCons (gN 4) (gsCons (gN 5) gsNil))))
    (dSeq (dSet 6 (dLc false (diR1 (daCons (dVar 5) daNil)) (.one 7) [7] (dTest (dOp dEq (dOp dIx (dVar 0) (dOp dMod (dOp (dAdd false) (dVar 1) (dVar 7)) (dVar 3))) (dC (.str "1")))) (dVar 7)))
    (dRet (dOp (dAdd false) (dOp (dMul false) (dVar 4) (dBM isS dCountS (dVar 0) (daCons (dC (.str "1")) daNil))) (dCB dLen (daCons (dVar 6) daNil))))))

/-! calendar_row -/
abbrev s_calendar_row : Stmt := top 24
abbrev nm_calendar_row : List Str := ["calendar", "speed", "size", "head", "ticks", "begin"]
theorem sc_calendar_row : FnScope nm_calendar_row ["calendar", "speed"] (defScope s_calendar_row) := ⟨rfl, rfl, rfl, by decide +kernel, rfl, by decide +kernel, by decide +kernel⟩
def t_calendar_row (K : PySem.W.Frag) (WD : DWX) : DTS :=
    dSeq (dDrop (dCall (sp_check_calendar K) WD [] (daCons (dVar 0) daNil)))
    (dSeq (dDrop (dCall (sp_check_speed K) WD [] (daCons (dVar 1) daNil)))
    (dSeq (dSet 2 (dCB dLen (daCons (dVar 0) daNil)))
    (dSeq (dSet 3 (dLst true daNil))
    (dSeq (dFor (diR1 (daCons (dVar 2) daNil)) (gN 4) (dDrop (dBM isL dAppend (dVar 3) (daCons (dOp (dMul false) (dVar 1) (dCB dMin (daCons (dLc false (diR1 (daCons (dVar 2) daNil)) (.one 5) [5] dYes (dCall (sp_open_ticks K) WD0 [] (daCons (dVar 0) (daCons (dVar 5) (daCons (dVar 4) daNil))))) daNil))) daNil))))
    (dFrz 3 (dRet (dMake (ga K "Row") (sp_Row_init K) WD [] (daCons (dVar 3) (daCons (dVar 2) (daCons (dOp (dMul false) (dVar 1) (dBM isS dCountS (dVar 0) (daCons (dC (.str "1")) daNil))) daNil))))))))))

/-! worst_begin -/
abbrev s_worst_begin : Stmt := top 25
abbrev nm_worst_begin : List Str := ["calendar", "ticks", "counts", "begin"]
theorem sc_worst_begin : FnScope nm_worst_begin ["calendar", "ticks"] (defScope s_worst_begin) := ⟨rfl, rfl, rfl, by decide +kernel, rfl, by decide +kernel, by decide +kernel⟩
def t_worst_begin (K : PySem.W.Frag) (WD : DWX) : DTS :=
    dSeq (dDrop (dCall (sp_check_calendar K) WD [] (daCons (dVar 0) daNil)))
    (dSeq (dSet 2 (dLc false (diR1 (daCons (dCB dLen (daCons (dVar 0) daNil)) daNil)) (.one 3) [3] dYes (dCall (sp_open_ticks K) WD0 [] (daCons (dVar 0) (daCons (dVar 3) (daCons (dVar 1) daNil))))))
    (dRet (dBM isL dIndex (dVar 2) (daCons (dCB dMin (daCons (dVar 2) daNil)) daNil))))

/-! _law_cell -/
abbrev s_law_cell : Stmt := top 27
abbrev nm_law_cell : List Str := ["_law_script", "_law_place"]
theorem sc_law_cell : FnScope nm_law_cell ["_law_script", "_law_place"] (defScope s_law_cell) := ⟨rfl, rfl, rfl, by decide +kernel, rfl, by decide +kernel, by decide +kernel⟩
def t_law_cell (K : PySem.W.Frag) (WD : DWX) : DTS :=
    dSeq (dIfS (dTest (dOp dLt (dVar 1) (dCB dLen (daCons (dVar 0) daNil)))) (dRet (dOp dIx (dVar 0) (dVar 1))) dNext)
    (dRet (dC (.int 0)))

/-! _law_source -/
abbrev s_law_source : Stmt := top 28
abbrev nm_law_source : List Str := ["_law_cell_here"]
theorem sc_law_source : FnScope nm_law_source ["_law_cell_here"] (defScope s_law_source) := ⟨rfl, rfl, rfl, by decide +kernel, rfl, by decide +kernel, by decide +kernel⟩
def t_law_source (K : PySem.W.Frag) (WD : DWX) : DTS :=
    dRet (dLst true (daCons (dVar 0) (daCons (dVar 0) (daCons (dC (.int 0)) daNil))))

/-! _law_draw -/
abbrev s_law_draw : Stmt := top 29
abbrev nm_law_draw : List Str := ["_law_source_here", "_law_limit", "_law_digit", "_law_seed", "_law_mixed"]
theorem sc_law_draw : FnScope nm_law_draw ["_law_source_here", "_law_limit"] (defScope s_law_draw) := ⟨rfl, rfl, rfl, by decide +kernel, rfl, by decide +kernel, by decide +kernel⟩
def t_law_draw (K : PySem.W.Frag) (WD : DWX) : DTS :=
    dSeq (dAsg (dOp (dAdd false) (dOp dIx (dVar 0) (dC (.int 2))) (dC (.int 1))) (gSet (dVar 0) (dC (.int 2))))
    (dSeq (dIfS (dTest (dOp dGe (dOp dIx (dVar 0) (dC (.int 0))) (dOp dPow (dC (.int 10)) (dC (.int 18))))) (dSeq (dSet 2 (dOp dMod (dCB dInt1 (daCons (dOp dIx (dVar 0) (dC (.int 1))) daNil)) (dVar 1)))
    (dSeq (dAsg (dOp dDiv (dOp dIx (dVar 0) (dC (.int 1))) (dVar 1)) (gSet (dVar 0) (dC (.int 1))))
    (dRet (dVar 2)))) dNext)
    (dSeq (dSet 3 (dOp dMod (dCB dInt1 (daCons (dOp dIx (dVar 0) (dC (.int 0))) daNil)) (dC (.int 2147483179))))
    (dSeq (dSet 4 (dOp dMod (dCB dInt1 (daCons (dOp dPow (dCB dInt1 (daCons (dOp (dAdd false) (dOp (dAdd false) (dOp (dMul false) (dVar 3) (dC (.int 7919))) (dOp (dMul false) (dOp dIx (dVar 0) (dC (.int 2))) (dC (.int 104561)))) (dC (.int 12011))) daNil)) (dC (.int 5))) daNil)) (dC (.int 2147483647))))
    (dSeq (dSet 4 (dOp dMod (dCB dInt1 (daCons (dOp dPow (dCB dInt1 (daCons (dOp (dAdd false) (dVar 4) (dOp (dMul false) (dOp (dMul false) (dOp dIx (dVar 0) (dC (.int 2))) (dOp dIx (dVar 0) (dC (.int 2)))) (dC (.int 40699)))) daNil)) (dC (.int 3))) daNil)) (dC (.int 2147482951))))
    (dRet (dOp dMod (dOp dDiv (dVar 4) (dC (.int 16))) (dVar 1)))))))

/-! _law_open -/
abbrev s_law_open : Stmt := top 30
abbrev nm_law_open : List Str := ["_law_calendar", "_law_begin", "_law_ticks", "_law_size", "_law_rest", "_law_k"]
theorem sc_law_open : FnScope nm_law_open ["_law_calendar", "_law_begin", "_law_ticks"] (defScope s_law_open) := ⟨rfl, rfl, rfl, by decide +kernel, rfl, by decide +kernel, by decide +kernel⟩
def t_law_open (K : PySem.W.Frag) (WD : DWX) : DTS :=
    dSeq (dSet 3 (dCB dLen (daCons (dVar 0) daNil)))
    (dSeq (dSet 4 (dLc false (diR1 (daCons (dOp dMod (dCB dInt1 (daCons (dVar 2) daNil)) (dVar 3)) daNil)) (.one 5) [5] (dTest (dOp dEq (dOp dIx (dVar 0) (dOp dMod (dCB dInt1 (daCons (dOp (dAdd false) (dVar 1) (dVar 5)) daNil)) (dVar 3))) (dC (.str "1")))) (dVar 5)))
    (dRet (dOp (dAdd false) (dOp (dMul false) (dOp dDiv (dVar 2) (dVar 3)) (dBM isS dCountS (dVar 0) (daCons (dC (.str "1")) daNil))) (dCB dLen (daCons (dVar 4) daNil)))))

/-! _law_any -/
abbrev s_law_any : Stmt := top 31
abbrev nm_law_any : List Str := ["_law_source_here", "_law_size", "_law_share", "_law_calendar", "_law_k", "_law_place"]
theorem sc_law_any : FnScope nm_law_any ["_law_source_here"] (defScope s_law_any) := ⟨rfl, rfl, rfl, by decide +kernel, rfl, by decide +kernel, by decide +kernel⟩
def t_law_any (K : PySem.W.Frag) (WD : DWX) : DTS :=
    dSeq (dSet 1 (dOp (dAdd false) (dC (.int 1)) (dCall (sp_law_draw K) WD [] (daCons (dVar 0) (daCons (dC (.int 24)) daNil)))))
    (dSeq (dSet 2 (dOp (dAdd false) (dC (.int 1)) (dCall (sp_law_draw K) WD [] (daCons (dVar 0) (daCons (dC (.int 4)) daNil)))))
    (dSeq (dSet 3 (dC (.str "")))
    (dSeq (dFor (diR1 (daCons (dVar 1) daNil)) (gN 4) (dSet 3 (dOp (dAdd false) (dVar 3) (dOp dIx (dC (.str "01")) (dCB dInt1 (daCons (dOp dLt (dCall (sp_law_draw K) WD [] (daCons (dVar 0) (daCons (dC (.int 5)) daNil))) (dVar 2)) daNil))))))
    (dSeq (dSet 5 (dCall (sp_law_draw K) WD [] (daCons (dVar 0) (daCons (dVar 1) daNil))))
    (dRet (dOp (dAdd false) (dOp (dAdd false) (dSlice false (dVar 3) doNone (doSome (dVar 5))) (dC (.str "1"))) (dSlice false (dVar 3) (doSome (dOp (dAdd false) (dVar 5) (dC (.int 1)))) doNone)))))))

/-! _law_outcome -/
abbrev s_law_outcome : Stmt := top 32
abbrev nm_law_outcome : List Str := ["_law_calendar", "_law_pace", "e"]
theorem sc_law_outcome : FnScope nm_law_outcome ["_law_calendar", "_law_pace"] (defScope s_law_outcome) := ⟨rfl, rfl, rfl, by decide +kernel, rfl, by decide +kernel, by decide +kernel⟩
def t_law_outcome (K : PySem.W.Frag) (WD : DWX) : DTS :=
    dTryL K (fun WDx1 => dRet (dCallN 1 1 (sp_calendar_row K) WDx1 (daCons (dVar 0) daNil) (daCons (dVar 1) daNil))) [(.ref (ga K "BadCalendar"), some 2, fun ea ec ed => dRet (dTup (daCons (dC (.str "calendar")) (daCons (dXf ea ec ed (ga K "BadCalendar") "calendar" (dVar 2)) daNil)))), (.ref (ga K "OutOfRange"), some 2, fun ea ec ed => dRet (dTup (daCons (dXf ea ec ed (ga K "OutOfRange") "what" (dVar 2)) (daCons (dXf ea ec ed (ga K "OutOfRange") "value" (dVar 2)) daNil))))] WD

/-! _law_worst -/
abbrev s_law_worst : Stmt := top 33
abbrev nm_law_worst : List Str := ["_law_calendar", "_law_ticks", "e"]
theorem sc_law_worst : FnScope nm_law_worst ["_law_calendar", "_law_ticks"] (defScope s_law_worst) := ⟨rfl, rfl, rfl, by decide +kernel, rfl, by decide +kernel, by decide +kernel⟩
def t_law_worst (K : PySem.W.Frag) (WD : DWX) : DTS :=
    dTryAs K (ga K "BadCalendar") 2 (fun WDx1 => dRet (dCall (sp_worst_begin K) WDx1 [] (daCons (dVar 0) (daCons (dVar 1) daNil)))) (fun ea ec ed => dRet (dTup (daCons (dC (.str "calendar")) (daCons (dXf ea ec ed (ga K "BadCalendar") "calendar" (dVar 2)) daNil)))) WD

/-! _law_refused -/
abbrev s_law_refused : Stmt := top 34
abbrev nm_law_refused : List Str := ["_law_source_here", "_law_calendar", "_law_pace", "_law_place", "_law_sign", "_law_bad", "_law_other", "_law_spoiled"]
theorem sc_law_refused : FnScope nm_law_refused ["_law_source_here", "_law_calendar", "_law_pace"] (defScope s_law_refused) := ⟨rfl, rfl, rfl, by decide +kernel, rfl, by decide +kernel, by decide +kernel⟩
def t_law_refused (K : PySem.W.Frag) (WD : DWX) : DTS :=
    dSeq (dSet 3 (dCall (sp_law_draw K) WD [] (daCons (dVar 0) (daCons (dCB dLen (daCons (dVar 1) daNil)) daNil))))
    (dSeq (dSet 4 (dOp dIx (dC (.str "2xO .-l")) (dCall (sp_law_draw K) WD [] (daCons (dVar 0) (daCons (dC (.int 7)) daNil)))))
    (dSeq (dSet 5 (dLst true (daCons (dC (.str "")) (daCons (dOp dMulS (dC (.str "0")) (dCB dLen (daCons (dVar 1) daNil))) (daCons (dOp (dAdd false) (dVar 1) (dOp dMulS (dC (.str "1")) (dOp dSub (dC (.int 25)) (dCB dLen (daCons (dVar 1) daNil))))) daNil)))))
    (dSeq (dDrop (dBM isL dAppend (dVar 5) (daCons (dOp (dAdd false) (dOp (dAdd false) (dSlice false (dVar 1) doNone (doSome (dVar 3))) (dVar 4)) (dSlice false (dVar 1) (doSome (dOp (dAdd false) (dVar 3) (dC (.int 1)))) doNone)) daNil)))
    (dFrz 5 (dSeq (dFor (diL (dVar 5)) (gN 6) (dSeq (dFor (diL (dLst false (daCons (dVar 2) (daCons (dC (.int 0)) (daCons (dC (.int 100)) daNil))))) (gN 7) (dIfS (dTest (dOp dNe (dCall (sp_law_outcome K) WD [] (daCons (dVar 6) (daCons (dVar 7) daNil))) (dTup (daCons (dC (.str "calendar")) (daCons (dVar 6) daNil))))) (dRet (dC (.bl false))) dNext))
    (dIfS (dTest (dOp dNe (dCall (sp_law_worst K) WD [] (daCons (dVar 6) (daCons (dC (.int 3)) daNil))) (dTup (daCons (dC (.str "calendar")) (daCons (dVar 6) daNil))))) (dRet (dC (.bl false))) dNext)))
    (dRet (dAndV (dOp dEq (dCall (sp_law_outcome K) WD [] (daCons (dVar 1) (daCons (dC (.int 0)) daNil))) (dTup (daCons (dC (.str "speed")) (daCons (dC (.int 0)) daNil)))) (dOp dEq (dCall (sp_law_outcome K) WD [] (daCons (dVar 1) (daCons (dC (.int 100)) daNil))) (dTup (daCons (dC (.str "speed")) (daCons (dC (.int 100)) daNil)))))))))))

/-! law -/
abbrev s_law : Stmt := top 35
abbrev nm_law : List Str := ["_law_script", "_law_source_here", "_law_calendar", "_law_pace", "_law_row", "_law_plain", "_law_size", "_law_due", "_law_k", "_law_near", "_law_ticks", "_law_cell_here", "_law_counts", "_law_begin", "_law_least", "_law_count"]
theorem sc_law : FnScope nm_law ["_law_script"] (defScope s_law) := ⟨rfl, rfl, rfl, by decide +kernel, rfl, by decide +kernel, by decide +kernel⟩
def t_law (K : PySem.W.Frag) (WD : DWX) : DTS :=
    dSeq (dSet 1 (dCall (sp_law_source K) WD [] (daCons (dCall (sp_law_cell K) WD [] (daCons (dVar 0) (daCons (dC (.int 0)) daNil))) daNil)))
    (dSeq (dSet 2 (dCall (sp_law_any K) WD [] (daCons (dVar 1) daNil)))
    (dSeq (dSet 3 (dOp (dAdd false) (dC (.int 1)) (dCall (sp_law_draw K) WD [] (daCons (dVar 1) (daCons (dC (.int 99)) daNil)))))
    (dSeq (dIfS (dNot (dTru (dCall (sp_law_refused K) WD [] (daCons (dVar 1) (daCons (dVar 2) (daCons (dVar 3) daNil)))))) (dRet (dC (.bl false))) dNext)
    (dSeq (dSet 4 (dCall (sp_law_outcome K) WD [] (daCons (dVar 2) (daCons (dVar 3) daNil))))
    (dSeq (dSet 5 (dCall (sp_calendar_row K) WD [.int 1] (daCons (dVar 2) daNil)))
    (dSeq (dIfS (dOr (dNot (dTru (dCB (dIsi K) (daCons (dVar 4) (daCons (dC (.ref (ga K "Row"))) daNil))))) (dNot (dTru (dCB (dIsi K) (daCons (dVar 5) (daCons (dC (.ref (ga K "Row"))) daNil)))))) (dRet (dC (.bl false))) dNext)
    (dSeq (dSet 6 (dCB dLen (daCons (dVar 2) daNil)))
    (dSeq (dSet 7 (dMake (ga K "Row") (sp_Row_init K) WD [] (daCons (dLc false (diR1 (daCons (dVar 6) daNil)) (.one 8) [8] dYes (dCallO (ga K "Row") (sp_Row_call K) WD0 (dVar 4) (daCons (dVar 8) daNil))) (daCons (dVar 6) (daCons (dCallO (ga K "Row") (sp_Row_call K) WD (dVar 4) (daCons (dVar 6) daNil)) daNil)))))
    (dSeq (dIfS (dTest (dOp dNe (dLst false (daCons (dFld K (dVar 4) "start") (daCons (dFld K (dVar 4) "period") (daCons (dFld K (dVar 4) "gain") (daCons (dProp (ga K "Row") (sp_Row_head K) (dVar 4)) daNil))))) (dLst false (daCons (dFld K (dVar 7) "start") (daCons (dFld K (dVar 7) "period") (daCons (dFld K (dVar 7) "gain") (daCons (dProp (ga K "Row") (sp_Row_head K) (dVar 7)) daNil))))))) (dRet (dC (.bl false))) dNext)
    (dSeq (dSet 9 (dOp (dAdd false) (dListR false (drR1 (dOp (dMul false) (dC (.int 2)) (dVar 6)))) (dLst false (daCons (dOp dSub (dOp (dMul false) (dC (.int 3)) (dVar 6)) (dC (.int 1))) (daCons (dOp (dMul false) (dC (.int 3)) (dVar 6)) daNil)))))
    (dSeq (dFor (diL (dOp (dAdd false) (dVar 9) (dLc false (diL (dSlice false (dVar 0) (doSome (dC (.int 1))) (doSome (dC (.int 9))))) (.one 11) [11] dYes (dOp dMod (dCB dInt1 (daCons (dVar 11) daNil)) (dOp dPow (dC (.int 10)) (dC (.int 40))))))) (gN 10) (dSeq (dSet 12 (dLc false (diR1 (daCons (dVar 6) daNil)) (.one 13) [13] dYes (dCall (sp_law_open K) WD0 [] (daCons (dVar 2) (daCons (dVar 13) (daCons (dVar 10) daNil))))))
    (dSeq (dSet 14 (dCB dMin (daCons (dLc false (diL (dVar 12)) (.one 15) [15] dYes (dCB dInt1 (daCons (dVar 15) daNil))) daNil)))
    (dSeq (dIfS (dOr (dTest (dOp dNe (dCallO (ga K "Row") (sp_Row_call K) WD (dVar 4) (daCons (dVar 10) daNil)) (dOp (dMul false) (dVar 3) (dVar 14)))) (dTest (dOp dNe (dCallO (ga K "Row") (sp_Row_call K) WD (dVar 5) (daCons (dVar 10) daNil)) (dVar 14)))) (dRet (dC (.bl false))) dNext)
    (dIfS (dTest (dOp dNe (dCall (sp_law_worst K) WD [] (daCons (dVar 2) (daCons (dVar 10) daNil))) (dBM isL dIndex (dVar 12) (daCons (dVar 14) daNil)))) (dRet (dC (.bl false))) dNext)))))
    (dRet (dAndV (dOp dEq (dCallO (ga K "Row") (sp_Row_call K) WD (dVar 4) (daCons (dC (.int 0)) daNil)) (dC (.int 0))) (dCB (dIsi K) (daCons (dCallO (ga K "Row") (sp_Row_call K) WD (dVar 4) (daCons (dC (.int 1)) daNil)) (daCons (dC (.ty "int")) daNil))))))))))))))))

def da_OutOfRange_init : DefA := ⟨fun K => ma K (ga K "OutOfRange") "__init__", "__init__", "OutOfRange.__init__", defArgs s_OutOfRange_init, defBody s_OutOfRange_init, defScope s_OutOfRange_init, [], []⟩
def da_BadCalendar_init : DefA := ⟨fun K => ma K (ga K "BadCalendar") "__init__", "__init__", "BadCalendar.__init__", defArgs s_BadCalendar_init, defBody s_BadCalendar_init, defScope s_BadCalendar_init, [], []⟩
def da_value_at : DefA := ⟨fun K => ga K "value_at", "value_at", "value_at", defArgs s_value_at, defBody s_value_at, defScope s_value_at, [], []⟩
def da_least_period : DefA := ⟨fun K => ga K "least_period", "least_period", "least_period", defArgs s_least_period, defBody s_least_period, defScope s_least_period, [], []⟩
def da_normal_form : DefA := ⟨fun K => ga K "normal_form", "normal_form", "normal_form", defArgs s_normal_form, defBody s_normal_form, defScope s_normal_form, [], []⟩
def da_Row_init : DefA := ⟨fun K => ma K (ga K "Row") "__init__", "__init__", "Row.__init__", defArgs s_Row_init, defBody s_Row_init, defScope s_Row_init, [], []⟩
def da_Row_head : DefA := ⟨fun K => wad K "property" "Row" "head", "head", "Row.head", defArgs s_Row_head, defBody s_Row_head, defScope s_Row_head, [], []⟩
def da_Row_call : DefA := ⟨fun K => ma K (ga K "Row") "__call__", "__call__", "Row.__call__", defArgs s_Row_call, defBody s_Row_call, defScope s_Row_call, [], []⟩
def da_Row_eq : DefA := ⟨fun K => ma K (ga K "Row") "__eq__", "__eq__", "Row.__eq__", defArgs s_Row_eq, defBody s_Row_eq, defScope s_Row_eq, [], []⟩
def da_check_speed : DefA := ⟨fun K => ga K "check_speed", "check_speed", "check_speed", defArgs s_check_speed, defBody s_check_speed, defScope s_check_speed, [], []⟩
def da_check_calendar : DefA := ⟨fun K => ga K "check_calendar", "check_calendar", "check_calendar", defArgs s_check_calendar, defBody s_check_calendar, defScope s_check_calendar, [], []⟩
def da_open_ticks : DefA := ⟨fun K => ga K "open_ticks", "open_ticks", "open_ticks", defArgs s_open_ticks, defBody s_open_ticks, defScope s_open_ticks, [], []⟩
def da_calendar_row : DefA := ⟨fun K => ga K "calendar_row", "calendar_row", "calendar_row", defArgs s_calendar_row, defBody s_calendar_row, defScope s_calendar_row, [], [("speed", .int 1)]⟩
def da_worst_begin : DefA := ⟨fun K => ga K "worst_begin", "worst_begin", "worst_begin", defArgs s_worst_begin, defBody s_worst_begin, defScope s_worst_begin, [], []⟩
def da_law_cell : DefA := ⟨fun K => ga K "_law_cell", "_law_cell", "_law_cell", defArgs s_law_cell, defBody s_law_cell, defScope s_law_cell, [], []⟩
def da_law_source : DefA := ⟨fun K => ga K "_law_source", "_law_source", "_law_source", defArgs s_law_source, defBody s_law_source, defScope s_law_source, [], []⟩
def da_law_draw : DefA := ⟨fun K => ga K "_law_draw", "_law_draw", "_law_draw", defArgs s_law_draw, defBody s_law_draw, defScope s_law_draw, [], []⟩
def da_law_open : DefA := ⟨fun K => ga K "_law_open", "_law_open", "_law_open", defArgs s_law_open, defBody s_law_open, defScope s_law_open, [], []⟩
def da_law_any : DefA := ⟨fun K => ga K "_law_any", "_law_any", "_law_any", defArgs s_law_any, defBody s_law_any, defScope s_law_any, [], []⟩
def da_law_outcome : DefA := ⟨fun K => ga K "_law_outcome", "_law_outcome", "_law_outcome", defArgs s_law_outcome, defBody s_law_outcome, defScope s_law_outcome, [], []⟩
def da_law_worst : DefA := ⟨fun K => ga K "_law_worst", "_law_worst", "_law_worst", defArgs s_law_worst, defBody s_law_worst, defScope s_law_worst, [], []⟩
def da_law_refused : DefA := ⟨fun K => ga K "_law_refused", "_law_refused", "_law_refused", defArgs s_law_refused, defBody s_law_refused, defScope s_law_refused, [], []⟩
def da_law : DefA := ⟨fun K => ga K "law", "law", "law", defArgs s_law, defBody s_law, defScope s_law, [], []⟩
def fn : List DefA := [da_OutOfRange_init, da_BadCalendar_init, da_value_at, da_least_period, da_normal_form, da_Row_init, da_Row_head, da_Row_call, da_Row_eq, da_check_speed, da_check_calendar, da_open_ticks, da_calendar_row, da_worst_begin, da_law_cell, da_law_source, da_law_draw, da_law_open, da_law_any, da_law_outcome, da_law_worst, da_law_refused, da_law]
def fa : List (Fr0 → Bool) := [
  fun K => (He.Fa.glo "value_at").ok K,
  fun K => (He.Fa.glo "least_period").ok K,
  fun K => (He.Fa.glo "normal_form").ok K,
  fun K => (He.Fa.glo "check_speed").ok K,
  fun K => (He.Fa.glo "check_calendar").ok K,
  fun K => (He.Fa.glo "open_ticks").ok K,
  fun K => (He.Fa.glo "calendar_row").ok K,
  fun K => (He.Fa.glo "worst_begin").ok K,
  fun K => (He.Fa.glo "_law_cell").ok K,
  fun K => (He.Fa.glo "_law_source").ok K,
  fun K => (He.Fa.glo "_law_draw").ok K,
  fun K => (He.Fa.glo "_law_open").ok K,
  fun K => (He.Fa.glo "_law_any").ok K,
  fun K => (He.Fa.glo "_law_outcome").ok K,
  fun K => (He.Fa.glo "_law_worst").ok K,
  fun K => (He.Fa.glo "_law_refused").ok K,
  fun K => (He.Fa.glo "law").ok K,
  fun K => (He.Fa.glo "OutOfRange").ok K,
  fun K => (He.Fa.glo "BadCalendar").ok K,
  fun K => (He.Fa.glo "Row").ok K,
  fun K => (He.Fa.free "divmod").ok K,
  fun K => (He.Fa.free "int").ok K,
  fun K => (He.Fa.free "isinstance").ok K,
  fun K => (He.Fa.free "len").ok K,
  fun K => (He.Fa.free "list").ok K,
  fun K => (He.Fa.free "min").ok K,
  fun K => (He.Fa.free "range").ok K,
  fun K => (He.Fa.free "sum").ok K,
  fun K => (He.Fa.int "PERIOD_LIMIT" 5000).ok K,
  fun K => (He.Fa.int "SPEED_LIMIT" 99).ok K,
  fun K => (He.Fa.int "CALENDAR_LIMIT" 24).ok K,
  fun K => (He.Fa.cls "Row").ok K,
  fun K => (He.Fa.mkr "Row").ok K,
  callB "Row",
  ownB "Row" "__eq__",
  propB "Row" "head",
  fun K => (He.Fa.noat "Row" "cells").ok K,
  fun K => (He.Fa.noat "Row" "period").ok K,
  fun K => (He.Fa.noat "Row" "gain").ok K,
  fun K => (He.Fa.noat "Row" "start").ok K,
  clsiB "Row",
  oexB "BadCalendar",
  exmB "BadCalendar" "BadCalendar" true,
  exmB "BadCalendar" "OutOfRange" false,
  oexB "OutOfRange",
  exmB "OutOfRange" "BadCalendar" false,
  exmB "OutOfRange" "OutOfRange" true,
  nofB "BadCalendar" "calendar",
  nofB "OutOfRange" "value",
  nofB "OutOfRange" "what",
  xfcB "BadCalendar",
  xfcB "OutOfRange",
  kitC "Row" "Row" true]
structure Txt (K : Fr0) (mg : Str → Option Value) : Prop where
  says : Says fa fn K
  ex : ∃ h : Heap, K.In h ∧ h.Ns mainGlobals mg
section
variable {K : Fr0} {mg : Str → Option Value}
theorem Txt.g_value_at (T : Txt K mg) : mg "value_at" = some (.ref (ga K "value_at")) := by
  obtain ⟨h, kin, g⟩ := T.ex
  exact He.glo_ok kin g (T.says.fact 0 rfl)
theorem Txt.g_least_period (T : Txt K mg) : mg "least_period" = some (.ref (ga K "least_period")) := by
  obtain ⟨h, kin, g⟩ := T.ex
  exact He.glo_ok kin g (T.says.fact 1 rfl)
theorem Txt.g_normal_form (T : Txt K mg) : mg "normal_form" = some (.ref (ga K "normal_form")) := by
  obtain ⟨h, kin, g⟩ := T.ex
  exact He.glo_ok kin g (T.says.fact 2 rfl)
theorem Txt.g_check_speed (T : Txt K mg) : mg "check_speed" = some (.ref (ga K "check_speed")) := by
  obtain ⟨h, kin, g⟩ := T.ex
  exact He.glo_ok kin g (T.says.fact 3 rfl)
theorem Txt.g_check_calendar (T : Txt K mg) : mg "check_calendar" = some (.ref (ga K "check_calendar")) := by
  obtain ⟨h, kin, g⟩ := T.ex
  exact He.glo_ok kin g (T.says.fact 4 rfl)
theorem Txt.g_open_ticks (T : Txt K mg) : mg "open_ticks" = some (.ref (ga K "open_ticks")) := by
  obtain ⟨h, kin, g⟩ := T.ex
  exact He.glo_ok kin g (T.says.fact 5 rfl)
theorem Txt.g_calendar_row (T : Txt K mg) : mg "calendar_row" = some (.ref (ga K "calendar_row")) := by
  obtain ⟨h, kin, g⟩ := T.ex
  exact He.glo_ok kin g (T.says.fact 6 rfl)
theorem Txt.g_worst_begin (T : Txt K mg) : mg "worst_begin" = some (.ref (ga K "worst_begin")) := by
  obtain ⟨h, kin, g⟩ := T.ex
  exact He.glo_ok kin g (T.says.fact 7 rfl)
theorem Txt.g_law_cell (T : Txt K mg) : mg "_law_cell" = some (.ref (ga K "_law_cell")) := by
  obtain ⟨h, kin, g⟩ := T.ex
  exact He.glo_ok kin g (T.says.fact 8 rfl)
theorem Txt.g_law_source (T : Txt K mg) : mg "_law_source" = some (.ref (ga K "_law_source")) := by
  obtain ⟨h, kin, g⟩ := T.ex
  exact He.glo_ok kin g (T.says.fact 9 rfl)
theorem Txt.g_law_draw (T : Txt K mg) : mg "_law_draw" = some (.ref (ga K "_law_draw")) := by
  obtain ⟨h, kin, g⟩ := T.ex
  exact He.glo_ok kin g (T.says.fact 10 rfl)
theorem Txt.g_law_open (T : Txt K mg) : mg "_law_open" = some (.ref (ga K "_law_open")) := by
  obtain ⟨h, kin, g⟩ := T.ex
  exact He.glo_ok kin g (T.says.fact 11 rfl)
theorem Txt.g_law_any (T : Txt K mg) : mg "_law_any" = some (.ref (ga K "_law_any")) := by
  obtain ⟨h, kin, g⟩ := T.ex
  exact He.glo_ok kin g (T.says.fact 12 rfl)
theorem Txt.g_law_outcome (T : Txt K mg) : mg "_law_outcome" = some (.ref (ga K "_law_outcome")) := by
  obtain ⟨h, kin, g⟩ := T.ex
  exact He.glo_ok kin g (T.says.fact 13 rfl)
theorem Txt.g_law_worst (T : Txt K mg) : mg "_law_worst" = some (.ref (ga K "_law_worst")) := by
  obtain ⟨h, kin, g⟩ := T.ex
  exact He.glo_ok kin g (T.says.fact 14 rfl)
theorem Txt.g_law_refused (T : Txt K mg) : mg "_law_refused" = some (.ref (ga K "_law_refused")) := by
  obtain ⟨h, kin, g⟩ := T.ex
  exact He.glo_ok kin g (T.says.fact 15 rfl)
theorem Txt.g_law (T : Txt K mg) : mg "law" = some (.ref (ga K "law")) := by
  obtain ⟨h, kin, g⟩ := T.ex
  exact He.glo_ok kin g (T.says.fact 16 rfl)
theorem Txt.g_OutOfRange (T : Txt K mg) : mg "OutOfRange" = some (.ref (ga K "OutOfRange")) := by
  obtain ⟨h, kin, g⟩ := T.ex
  exact He.glo_ok kin g (T.says.fact 17 rfl)
theorem Txt.g_BadCalendar (T : Txt K mg) : mg "BadCalendar" = some (.ref (ga K "BadCalendar")) := by
  obtain ⟨h, kin, g⟩ := T.ex
  exact He.glo_ok kin g (T.says.fact 18 rfl)
theorem Txt.g_Row (T : Txt K mg) : mg "Row" = some (.ref (ga K "Row")) := by
  obtain ⟨h, kin, g⟩ := T.ex
  exact He.glo_ok kin g (T.says.fact 19 rfl)
theorem Txt.b_divmod (T : Txt K mg) : mg "divmod" = none := by
  obtain ⟨h, kin, g⟩ := T.ex
  exact He.free_ok kin g (T.says.fact 20 rfl)
theorem Txt.b_int (T : Txt K mg) : mg "int" = none := by
  obtain ⟨h, kin, g⟩ := T.ex
  exact He.free_ok kin g (T.says.fact 21 rfl)
theorem Txt.b_isinstance (T : Txt K mg) : mg "isinstance" = none := by
  obtain ⟨h, kin, g⟩ := T.ex
  exact He.free_ok kin g (T.says.fact 22 rfl)
theorem Txt.b_len (T : Txt K mg) : mg "len" = none := by
  obtain ⟨h, kin, g⟩ := T.ex
  exact He.free_ok kin g (T.says.fact 23 rfl)
theorem Txt.b_list (T : Txt K mg) : mg "list" = none := by
  obtain ⟨h, kin, g⟩ := T.ex
  exact He.free_ok kin g (T.says.fact 24 rfl)
theorem Txt.b_min (T : Txt K mg) : mg "min" = none := by
  obtain ⟨h, kin, g⟩ := T.ex
  exact He.free_ok kin g (T.says.fact 25 rfl)
theorem Txt.b_range (T : Txt K mg) : mg "range" = none := by
  obtain ⟨h, kin, g⟩ := T.ex
  exact He.free_ok kin g (T.says.fact 26 rfl)
theorem Txt.b_sum (T : Txt K mg) : mg "sum" = none := by
  obtain ⟨h, kin, g⟩ := T.ex
  exact He.free_ok kin g (T.says.fact 27 rfl)
theorem Txt.k_PERIOD_LIMIT (T : Txt K mg) : ∃ t, mg "PERIOD_LIMIT" = some (.int 5000 t) := by
  obtain ⟨h, kin, g⟩ := T.ex
  exact He.int_ok kin g (T.says.fact 28 rfl)
theorem Txt.k_SPEED_LIMIT (T : Txt K mg) : ∃ t, mg "SPEED_LIMIT" = some (.int 99 t) := by
  obtain ⟨h, kin, g⟩ := T.ex
  exact He.int_ok kin g (T.says.fact 29 rfl)
theorem Txt.k_CALENDAR_LIMIT (T : Txt K mg) : ∃ t, mg "CALENDAR_LIMIT" = some (.int 24 t) := by
  obtain ⟨h, kin, g⟩ := T.ex
  exact He.int_ok kin g (T.says.fact 30 rfl)
theorem Txt.cl_Row (T : Txt K mg) : Cls K (ga K "Row") := He.cls_ok (T.says.fact 31 rfl)
theorem Txt.mk_Row (T : Txt K mg) : Mk K (ga K "Row") (ma K (ga K "Row") "__init__") := He.mkr_ok (T.says.fact 32 rfl)
theorem Txt.co_Row (T : Txt K mg) : StX.CallO K (ga K "Row") (ma K (ga K "Row") "__call__") := callo_of (T.says.fact 33 rfl)
theorem Txt.eq_Row (T : Txt K mg) : PySem.W.findIn K (.ref (ga K "Row")) "__eq__" = some (some (.ref (ma K (ga K "Row") "__eq__"))) := (own_of (T.says.fact 34 rfl)).1
theorem Txt.eqf_Row (T : Txt K mg) : PySem.W.isFn K (.ref (ma K (ga K "Row") "__eq__")) = true := (own_of (T.says.fact 34 rfl)).2
theorem Txt.p_Row_head (T : Txt K mg) : PropOf K (ga K "Row") "head" (pad K "Row" "head") (wad K "property" "Row" "head") := prop_of (T.says.fact 35 rfl)
theorem Txt.n_Row_cells (T : Txt K mg) : NoAttr K (ga K "Row") "cells" := He.noat_ok (T.says.fact 36 rfl)
theorem Txt.n_Row_period (T : Txt K mg) : NoAttr K (ga K "Row") "period" := He.noat_ok (T.says.fact 37 rfl)
theorem Txt.n_Row_gain (T : Txt K mg) : NoAttr K (ga K "Row") "gain" := He.noat_ok (T.says.fact 38 rfl)
theorem Txt.n_Row_start (T : Txt K mg) : NoAttr K (ga K "Row") "start" := He.noat_ok (T.says.fact 39 rfl)
theorem Txt.ci_Row (T : Txt K mg) : ClsI K (ga K "Row") := clsi_of (T.says.fact 40 rfl)
theorem Txt.ox_BadCalendar (T : Txt K mg) : OexC K (ga K "BadCalendar") := (oex_of (T.says.fact 41 rfl)).1
theorem Txt.oxi_BadCalendar (T : Txt K mg) : PySem.W.findIn K (.ref (ga K "BadCalendar")) "__init__" = some (some (.ref (ma K (ga K "BadCalendar") "__init__"))) := (oex_of (T.says.fact 41 rfl)).2.1
theorem Txt.oxf_BadCalendar (T : Txt K mg) : PySem.W.typeIn K (.ref (ma K (ga K "BadCalendar") "__init__")) = some (.type "function") := (oex_of (T.says.fact 41 rfl)).2.2
theorem Txt.xm_BadCalendar_BadCalendar (T : Txt K mg) : PySem.W.exmOne K (.ref (ga K "BadCalendar")) (.ref (ga K "BadCalendar")) = some true := of_decide_eq_true (T.says.fact 42 rfl)
theorem Txt.xm_BadCalendar_OutOfRange (T : Txt K mg) : PySem.W.exmOne K (.ref (ga K "BadCalendar")) (.ref (ga K "OutOfRange")) = some false := of_decide_eq_true (T.says.fact 43 rfl)
theorem Txt.ox_OutOfRange (T : Txt K mg) : OexC K (ga K "OutOfRange") := (oex_of (T.says.fact 44 rfl)).1
theorem Txt.oxi_OutOfRange (T : Txt K mg) : PySem.W.findIn K (.ref (ga K "OutOfRange")) "__init__" = some (some (.ref (ma K (ga K "OutOfRange") "__init__"))) := (oex_of (T.says.fact 44 rfl)).2.1
theorem Txt.oxf_OutOfRange (T : Txt K mg) : PySem.W.typeIn K (.ref (ma K (ga K "OutOfRange") "__init__")) = some (.type "function") := (oex_of (T.says.fact 44 rfl)).2.2
theorem Txt.xm_OutOfRange_BadCalendar (T : Txt K mg) : PySem.W.exmOne K (.ref (ga K "OutOfRange")) (.ref (ga K "BadCalendar")) = some false := of_decide_eq_true (T.says.fact 45 rfl)
theorem Txt.xm_OutOfRange_OutOfRange (T : Txt K mg) : PySem.W.exmOne K (.ref (ga K "OutOfRange")) (.ref (ga K "OutOfRange")) = some true := of_decide_eq_true (T.says.fact 46 rfl)
theorem Txt.nf_BadCalendar_calendar (T : Txt K mg) : PySem.W.findIn K (.ref (ga K "BadCalendar")) "calendar" = some none := of_decide_eq_true (T.says.fact 47 rfl)
theorem Txt.nf_OutOfRange_value (T : Txt K mg) : PySem.W.findIn K (.ref (ga K "OutOfRange")) "value" = some none := of_decide_eq_true (T.says.fact 48 rfl)
theorem Txt.nf_OutOfRange_what (T : Txt K mg) : PySem.W.findIn K (.ref (ga K "OutOfRange")) "what" = some none := of_decide_eq_true (T.says.fact 49 rfl)
theorem Txt.xf_BadCalendar (T : Txt K mg) : XfC K (ga K "BadCalendar") := xfB_ok (T.says.fact 50 rfl)
theorem Txt.xf_OutOfRange (T : Txt K mg) : XfC K (ga K "OutOfRange") := xfB_ok (T.says.fact 51 rfl)
theorem Txt.kit_Row (T : Txt K mg) : PySem.W.kitOne K (.ref (ga K "Row")) (.ref (ga K "Row")) = some true := of_decide_eq_true (T.says.fact 52 rfl)
theorem Txt.d_OutOfRange_init (T : Txt K mg) : ∃ fd, FunD K "__init__" "OutOfRange.__init__" (defArgs s_OutOfRange_init) (defBody s_OutOfRange_init) (defScope s_OutOfRange_init) [] [] (ma K (ga K "OutOfRange") "__init__") fd := T.says.def_ 0 (d := da_OutOfRange_init) rfl
theorem Txt.d_BadCalendar_init (T : Txt K mg) : ∃ fd, FunD K "__init__" "BadCalendar.__init__" (defArgs s_BadCalendar_init) (defBody s_BadCalendar_init) (defScope s_BadCalendar_init) [] [] (ma K (ga K "BadCalendar") "__init__") fd := T.says.def_ 1 (d := da_BadCalendar_init) rfl
theorem Txt.d_value_at (T : Txt K mg) : ∃ fd, FunD K "value_at" "value_at" (defArgs s_value_at) (defBody s_value_at) (defScope s_value_at) [] [] (ga K "value_at") fd := T.says.def_ 2 (d := da_value_at) rfl
theorem Txt.d_least_period (T : Txt K mg) : ∃ fd, FunD K "least_period" "least_period" (defArgs s_least_period) (defBody s_least_period) (defScope s_least_period) [] [] (ga K "least_period") fd := T.says.def_ 3 (d := da_least_period) rfl
theorem Txt.d_normal_form (T : Txt K mg) : ∃ fd, FunD K "normal_form" "normal_form" (defArgs s_normal_form) (defBody s_normal_form) (defScope s_normal_form) [] [] (ga K "normal_form") fd := T.says.def_ 4 (d := da_normal_form) rfl
theorem Txt.d_Row_init (T : Txt K mg) : ∃ fd, FunD K "__init__" "Row.__init__" (defArgs s_Row_init) (defBody s_Row_init) (defScope s_Row_init) [] [] (ma K (ga K "Row") "__init__") fd := T.says.def_ 5 (d := da_Row_init) rfl
theorem Txt.d_Row_head (T : Txt K mg) : ∃ fd, FunD K "head" "Row.head" (defArgs s_Row_head) (defBody s_Row_head) (defScope s_Row_head) [] [] (wad K "property" "Row" "head") fd := T.says.def_ 6 (d := da_Row_head) rfl
theorem Txt.d_Row_call (T : Txt K mg) : ∃ fd, FunD K "__call__" "Row.__call__" (defArgs s_Row_call) (defBody s_Row_call) (defScope s_Row_call) [] [] (ma K (ga K "Row") "__call__") fd := T.says.def_ 7 (d := da_Row_call) rfl
theorem Txt.d_Row_eq (T : Txt K mg) : ∃ fd, FunD K "__eq__" "Row.__eq__" (defArgs s_Row_eq) (defBody s_Row_eq) (defScope s_Row_eq) [] [] (ma K (ga K "Row") "__eq__") fd := T.says.def_ 8 (d := da_Row_eq) rfl
theorem Txt.d_check_speed (T : Txt K mg) : ∃ fd, FunD K "check_speed" "check_speed" (defArgs s_check_speed) (defBody s_check_speed) (defScope s_check_speed) [] [] (ga K "check_speed") fd := T.says.def_ 9 (d := da_check_speed) rfl
theorem Txt.d_check_calendar (T : Txt K mg) : ∃ fd, FunD K "check_calendar" "check_calendar" (defArgs s_check_calendar) (defBody s_check_calendar) (defScope s_check_calendar) [] [] (ga K "check_calendar") fd := T.says.def_ 10 (d := da_check_calendar) rfl
theorem Txt.d_open_ticks (T : Txt K mg) : ∃ fd, FunD K "open_ticks" "open_ticks" (defArgs s_open_ticks) (defBody s_open_ticks) (defScope s_open_ticks) [] [] (ga K "open_ticks") fd := T.says.def_ 11 (d := da_open_ticks) rfl
theorem Txt.d_calendar_row (T : Txt K mg) : ∃ fd, FunD K "calendar_row" "calendar_row" (defArgs s_calendar_row) (defBody s_calendar_row) (defScope s_calendar_row) [] [("speed", .int 1)] (ga K "calendar_row") fd := T.says.def_ 12 (d := da_calendar_row) rfl
theorem Txt.d_worst_begin (T : Txt K mg) : ∃ fd, FunD K "worst_begin" "worst_begin" (defArgs s_worst_begin) (defBody s_worst_begin) (defScope s_worst_begin) [] [] (ga K "worst_begin") fd := T.says.def_ 13 (d := da_worst_begin) rfl
theorem Txt.d_law_cell (T : Txt K mg) : ∃ fd, FunD K "_law_cell" "_law_cell" (defArgs s_law_cell) (defBody s_law_cell) (defScope s_law_cell) [] [] (ga K "_law_cell") fd := T.says.def_ 14 (d := da_law_cell) rfl
theorem Txt.d_law_source (T : Txt K mg) : ∃ fd, FunD K "_law_source" "_law_source" (defArgs s_law_source) (defBody s_law_source) (defScope s_law_source) [] [] (ga K "_law_source") fd := T.says.def_ 15 (d := da_law_source) rfl
theorem Txt.d_law_draw (T : Txt K mg) : ∃ fd, FunD K "_law_draw" "_law_draw" (defArgs s_law_draw) (defBody s_law_draw) (defScope s_law_draw) [] [] (ga K "_law_draw") fd := T.says.def_ 16 (d := da_law_draw) rfl
theorem Txt.d_law_open (T : Txt K mg) : ∃ fd, FunD K "_law_open" "_law_open" (defArgs s_law_open) (defBody s_law_open) (defScope s_law_open) [] [] (ga K "_law_open") fd := T.says.def_ 17 (d := da_law_open) rfl
theorem Txt.d_law_any (T : Txt K mg) : ∃ fd, FunD K "_law_any" "_law_any" (defArgs s_law_any) (defBody s_law_any) (defScope s_law_any) [] [] (ga K "_law_any") fd := T.says.def_ 18 (d := da_law_any) rfl
theorem Txt.d_law_outcome (T : Txt K mg) : ∃ fd, FunD K "_law_outcome" "_law_outcome" (defArgs s_law_outcome) (defBody s_law_outcome) (defScope s_law_outcome) [] [] (ga K "_law_outcome") fd := T.says.def_ 19 (d := da_law_outcome) rfl
theorem Txt.d_law_worst (T : Txt K mg) : ∃ fd, FunD K "_law_worst" "_law_worst" (defArgs s_law_worst) (defBody s_law_worst) (defScope s_law_worst) [] [] (ga K "_law_worst") fd := T.says.def_ 20 (d := da_law_worst) rfl
theorem Txt.d_law_refused (T : Txt K mg) : ∃ fd, FunD K "_law_refused" "_law_refused" (defArgs s_law_refused) (defBody s_law_refused) (defScope s_law_refused) [] [] (ga K "_law_refused") fd := T.says.def_ 21 (d := da_law_refused) rfl
theorem Txt.d_law (T : Txt K mg) : ∃ fd, FunD K "law" "law" (defArgs s_law) (defBody s_law) (defScope s_law) [] [] (ga K "law") fd := T.says.def_ 22 (d := da_law) rfl
end
theorem len_value_at {K : Fr0} : ∀ ds m Q E, sp_value_at K ds m Q E → ds.length = (["cells", "period", "gain", "index"] : List Str).length := by
  intro ds m Q E h
  repeat (first | (obtain ⟨rfl, _⟩ := h; rfl) | (obtain ⟨_, h⟩ := h))
theorem len_least_period {K : Fr0} : ∀ ds m Q E, sp_least_period K ds m Q E → ds.length = (["steps"] : List Str).length := by
  intro ds m Q E h
  repeat (first | (obtain ⟨rfl, _⟩ := h; rfl) | (obtain ⟨_, h⟩ := h))
theorem len_normal_form {K : Fr0} : ∀ ds m Q E, sp_normal_form K ds m Q E → ds.length = (["head", "period", "gain"] : List Str).length := by
  intro ds m Q E h
  repeat (first | (obtain ⟨rfl, _⟩ := h; rfl) | (obtain ⟨_, h⟩ := h))
theorem len_Row_init {K : Fr0} : ∀ ds m Q E, sp_Row_init K ds m Q E → ds.length = (["self", "head", "period", "gain"] : List Str).length := by
  intro ds m Q E h
  repeat (first | (obtain ⟨rfl, _⟩ := h; rfl) | (obtain ⟨_, h⟩ := h))
theorem len_Row_head {K : Fr0} : ∀ ds m Q E, sp_Row_head K ds m Q E → ds.length = (["self"] : List Str).length := by
  intro ds m Q E h
  repeat (first | (obtain ⟨rfl, _⟩ := h; rfl) | (obtain ⟨_, h⟩ := h))
theorem len_Row_call {K : Fr0} : ∀ ds m Q E, sp_Row_call K ds m Q E → ds.length = (["self", "index"] : List Str).length := by
  intro ds m Q E h
  repeat (first | (obtain ⟨rfl, _⟩ := h; rfl) | (obtain ⟨_, h⟩ := h))
theorem len_Row_eq {K : Fr0} : ∀ ds m Q E, sp_Row_eq K ds m Q E → ds.length = (["self", "other"] : List Str).length := by
  intro ds m Q E h
  repeat (first | (obtain ⟨rfl, _⟩ := h; rfl) | (obtain ⟨_, h⟩ := h))
theorem len_check_speed {K : Fr0} : ∀ ds m Q E, sp_check_speed K ds m Q E → ds.length = (["speed"] : List Str).length := by
  intro ds m Q E h
  repeat (first | (obtain ⟨rfl, _⟩ := h; rfl) | (obtain ⟨_, h⟩ := h))
theorem len_check_calendar {K : Fr0} : ∀ ds m Q E, sp_check_calendar K ds m Q E → ds.length = (["calendar"] : List Str).length := by
  intro ds m Q E h
  repeat (first | (obtain ⟨rfl, _⟩ := h; rfl) | (obtain ⟨_, h⟩ := h))
theorem len_open_ticks {K : Fr0} : ∀ ds m Q E, sp_open_ticks K ds m Q E → ds.length = (["calendar", "begin", "ticks"] : List Str).length := by
  intro ds m Q E h
  repeat (first | (obtain ⟨rfl, _⟩ := h; rfl) | (obtain ⟨_, h⟩ := h))
theorem len_calendar_row {K : Fr0} : ∀ ds m Q E, sp_calendar_row K ds m Q E → ds.length = (["calendar", "speed"] : List Str).length := by
  intro ds m Q E h
  repeat (first | (obtain ⟨rfl, _⟩ := h; rfl) | (obtain ⟨_, h⟩ := h))
theorem len_worst_begin {K : Fr0} : ∀ ds m Q E, sp_worst_begin K ds m Q E → ds.length = (["calendar", "ticks"] : List Str).length := by
  intro ds m Q E h
  repeat (first | (obtain ⟨rfl, _⟩ := h; rfl) | (obtain ⟨_, h⟩ := h))
theorem len_law_cell {K : Fr0} : ∀ ds m Q E, sp_law_cell K ds m Q E → ds.length = (["_law_script", "_law_place"] : List Str).length := by
  intro ds m Q E h
  repeat (first | (obtain ⟨rfl, _⟩ := h; rfl) | (obtain ⟨_, h⟩ := h))
theorem len_law_source {K : Fr0} : ∀ ds m Q E, sp_law_source K ds m Q E → ds.length = (["_law_cell_here"] : List Str).length := by
  intro ds m Q E h
  repeat (first | (obtain ⟨rfl, _⟩ := h; rfl) | (obtain ⟨_, h⟩ := h))
theorem len_law_draw {K : Fr0} : ∀ ds m Q E, sp_law_draw K ds m Q E → ds.length = (["_law_source_here", "_law_limit"] : List Str).length := by
  intro ds m Q E h
  repeat (first | (obtain ⟨rfl, _⟩ := h; rfl) | (obtain ⟨_, h⟩ := h))
theorem len_law_open {K : Fr0} : ∀ ds m Q E, sp_law_open K ds m Q E → ds.length = (["_law_calendar", "_law_begin", "_law_ticks"] : List Str).length := by
  intro ds m Q E h
  repeat (first | (obtain ⟨rfl, _⟩ := h; rfl) | (obtain ⟨_, h⟩ := h))
theorem len_law_any {K : Fr0} : ∀ ds m Q E, sp_law_any K ds m Q E → ds.length = (["_law_source_here"] : List Str).length := by
  intro ds m Q E h
  repeat (first | (obtain ⟨rfl, _⟩ := h; rfl) | (obtain ⟨_, h⟩ := h))
theorem len_law_outcome {K : Fr0} : ∀ ds m Q E, sp_law_outcome K ds m Q E → ds.length = (["_law_calendar", "_law_pace"] : List Str).length := by
  intro ds m Q E h
  repeat (first | (obtain ⟨rfl, _⟩ := h; rfl) | (obtain ⟨_, h⟩ := h))
theorem len_law_worst {K : Fr0} : ∀ ds m Q E, sp_law_worst K ds m Q E → ds.length = (["_law_calendar", "_law_ticks"] : List Str).length := by
  intro ds m Q E h
  repeat (first | (obtain ⟨rfl, _⟩ := h; rfl) | (obtain ⟨_, h⟩ := h))
theorem len_law_refused {K : Fr0} : ∀ ds m Q E, sp_law_refused K ds m Q E → ds.length = (["_law_source_here", "_law_calendar", "_law_pace"] : List Str).length := by
  intro ds m Q E h
  repeat (first | (obtain ⟨rfl, _⟩ := h; rfl) | (obtain ⟨_, h⟩ := h))
end LW

set_option Elab.async false
set_option linter.all false
set_option maxRecDepth 100000
set_option maxHeartbeats 4000000
namespace LW
open PySem PySem.Spec PyProof.Rows L2 DL RowM
open He (ga ma)
theorem mul_sz {i j : Int} (hi : Sz i) (hj : Sz j) : DL.MulOk i j := .inr (wide_mul hi hj (by decide) (by decide) (by decide))
theorem sz_le {i j : Int} (h : i.natAbs ≤ j.natAbs) (hj : Sz j) : Sz i := Nat.lt_of_le_of_lt h hj
theorem sz6 : 1000000 < 2 ^ 3000 := Nat.lt_of_lt_of_le (show 1000000 < 2 ^ 20 by decide) (Nat.pow_le_pow_right (by decide) (by decide))
theorem sz100 : 2 ^ 100 < 2 ^ 3000 := Nat.pow_lt_pow_right (by decide) (by decide)
theorem pure_value_at {K : Fr0} {mg : Str → Option Value} (T : Txt K mg) (ds : List D) (m : M) (Q : D → M → Prop) (E : XD → M → Prop) (h : sp_value_at K ds m Q E) : t_value_at K (fun x _ m => E x m) { nx := fun _ m => Q .non m, rt := Q } (startD nm_value_at ds) m := by
  obtain ⟨cs, p, g, i, rfl, ⟨p1, p2⟩, hl, hg, ⟨i0, hi⟩, q⟩ := h
  show t_value_at K _ _ [some (il cs), some (.int p), some (.int g), some (.int i), none] m
  unfold t_value_at
  try simp only [dSeq, dIfS, dTest, dOp, dVar, dC, dCB, daCons, daNil, dSet, dRet, dNext, dDrop, dAsg, dPar, dAug, dAddI, dBreak, dCont, dRetN, slot, dLen, dCmpI, dSub, dAdd, dMul, dDiv, dMod, dPow, dNeg, dUn, dIx, dInt1, dAbs, dChain, dAnd, dOr, dNot, dAndV, dOrV, dNotV, dTru, dTruB, dIf, dTup, dLst, mkL, dSlice, dSl, doNone, doSome, dSum, dAll, dAny, dList, dTuple, dMax, dMin, eq_ii, ne_ii, eq_ss, ne_ss, eq_bb, ne_bb, eq_nn, ne_nn, dIsN, dNotN, dIsB, dNotB, gN, gT, gsNil, gsCons, gSet, dBM, dAppend, dClear, dFld, dFldS, dProp, dCall, dMeth, dMake, dCallO, dFor, dLc, diR1, diR2, diL, diT, diRv, diS, diE, dFmt, dFStr, dJs, dCallN, dFrzE, frz_l, in_ss, notin_ss, drR1, drR2, dListR, dRaise, dRaise0, dTryAs, dTry, dXf, dAddO, dInO, isL, insOf, Option.some.injEq, List.cons.injEq, D.int.injEq, D.bl.injEq, D.str.injEq, D.lst.injEq, D.tup.injEq, D.ref.injEq, MO.lst.injEq, MO.ins.injEq, mset_mset, and_true, true_and, and_self, and_assoc, exists_eq_left', exists_eq_left, exists_and_left, exists_and_right, exists_eq', List.set_cons_zero, List.set_cons_succ, decide_eq_true_eq, sqOf, lsOf, List.length_cons, List.length_nil, sizeLine_eq, List.append_nil, List.cons_append, List.nil_append, if_true, if_false, Bool.false_eq_true, reduceCtorEq, reduceIte, Nat.reduceAdd, Nat.reduceLeDiff, mset_same, Option.bind_some, List.length_map, Prod.mk.injEq, at0, at1, at2, at3, ix30, ix31, ix32, ix20, ix21, ix10, isi_ii, isi_ib, isi_ll, isi_bb, isi_ss, isi_tt, isi_is, isi_si, Bool.not_true, Bool.not_false]
  by_cases hc : i < (cs.length : Int)
  · rw [if_pos hc, atI_ints i0 hc]
    refine ⟨_, rfl, ?_⟩
    rw [val_lt (by omega)] at q
    exact q
  · rw [if_neg hc]
    have hq0 : 0 ≤ (i - (cs.length : Int)) / p := Int.ediv_nonneg (by omega) (by omega)
    have hq1 : (i - (cs.length : Int)) / p * p ≤ i - (cs.length : Int) := Int.ediv_mul_le _ (by omega)
    have hq2 : i - (cs.length : Int) < ((i - (cs.length : Int)) / p + 1) * p := Int.lt_ediv_add_one_mul_self _ (by omega)
    have hq3 : (i - (cs.length : Int)) / p ≤ i - (cs.length : Int) := Int.ediv_le_self _ (by omega)
    have hn : ((i.toNat - cs.length) / p.toNat : Nat) = ((i - (cs.length : Int)) / p).toNat := by
      have e1 : i - (cs.length : Int) = ((i.toNat - cs.length : Nat) : Int) := by omega
      have e2 : p = ((p.toNat : Nat) : Int) := by omega
      have e3 : (i - (cs.length : Int)) / p = (((i.toNat - cs.length) / p.toNat : Nat) : Int) := by
        rw [Int.natCast_ediv, ← e1, ← e2]
      rw [e3, Int.toNat_natCast]
    generalize hk : (i - (cs.length : Int)) / p = k at *
    have hb : (k + 1) * p = k * p + p := by rw [Int.add_mul]; simp
    have e1 : 0 ≤ i - (k + 1) * p := by omega
    have e2 : i - (k + 1) * p < cs.length := by omega
    refine ⟨div_ok (by omega) (by omega), mul_small (by omega), ?_⟩
    rw [atI_ints e1 e2]
    refine ⟨_, rfl, mul_sz (sz_le (by omega) hi) hg, ?_⟩
    have e : val cs p.toNat g i.toNat = cs.getD (i - (k + 1) * p).toNat 0 + (k + 1) * g := by
      unfold val
      rw [if_neg (by omega), hn]
      have e3 : i.toNat - (k.toNat + 1) * p.toNat = (i - (k + 1) * p).toNat := by
        have : (((k.toNat + 1) * p.toNat : Nat) : Int) = (k + 1) * p := by
          rw [Int.natCast_mul, Int.natCast_add, Int.toNat_of_nonneg hq0, Int.toNat_of_nonneg (by omega)]
          rfl
        omega
      rw [e3]
      have e4 : ((k.toNat + 1 : Nat) : Int) = k + 1 := by omega
      rw [e4]
    rw [e] at q
    exact q
theorem pure_least_period {K : Fr0} {mg : Str → Option Value} (T : Txt K mg) (ds : List D) (m : M) (Q : D → M → Prop) (E : XD → M → Prop) (h : sp_least_period K ds m Q E) : t_least_period K (fun x _ m => E x m) { nx := fun _ m => Q .non m, rt := Q } (startD nm_least_period ds) m := by
  obtain ⟨st, rfl, ⟨l1, l2⟩, q⟩ := h
  show t_least_period K _ _ [some (il st), none, none] m
  unfold t_least_period
  try simp only [dSeq]
  try simp only [dIfS, dTest, dOp, dVar, dC, dCB, daCons, daNil, dSet, dRet, dNext, dDrop, dAsg, dPar, dAug, dAddI, dBreak, dCont, dRetN, slot, dLen, dCmpI, dSub, dAdd, dMul, dDiv, dMod, dPow, dNeg, dUn, dIx, dInt1, dAbs, dChain, dAnd, dOr, dNot, dAndV, dOrV, dNotV, dTru, dTruB, dIf, dTup, dLst, mkL, dSlice, dSl, doNone, doSome, dSum, dAll, dAny, dList, dTuple, dMax, dMin, eq_ii, ne_ii, eq_ss, ne_ss, eq_bb, ne_bb, eq_nn, ne_nn, dIsN, dNotN, dIsB, dNotB, gN, gT, gsNil, gsCons, gSet, dBM, dAppend, dClear, dFld, dFldS, dProp, dCall, dMeth, dMake, dCallO, dFor, dLc, diR1, diR2, diL, diT, diRv, diS, diE, dFmt, dFStr, dJs, dCallN, dFrzE, frz_l, in_ss, notin_ss, drR1, drR2, dListR, dRaise, dRaise0, dTryAs, dTry, dXf, dAddO, dInO, isL, insOf, Option.some.injEq, List.cons.injEq, D.int.injEq, D.bl.injEq, D.str.injEq, D.lst.injEq, D.tup.injEq, D.ref.injEq, MO.lst.injEq, MO.ins.injEq, mset_mset, and_true, true_and, and_self, and_assoc, exists_eq_left', exists_eq_left, exists_and_left, exists_and_right, exists_eq', List.set_cons_zero, List.set_cons_succ, decide_eq_true_eq, sqOf, lsOf, List.length_cons, List.length_nil, sizeLine_eq, List.append_nil, List.cons_append, List.nil_append, if_true, if_false, Bool.false_eq_true, reduceCtorEq, reduceIte, Nat.reduceAdd, Nat.reduceLeDiff, mset_same, Option.bind_some, List.length_map, Prod.mk.injEq, at0, at1, at2, at3, ix30, ix31, ix32, ix20, ix21, ix10, isi_ii, isi_ib, isi_ll, isi_bb, isi_ss, isi_tt, isi_is, isi_si, Bool.not_true, Bool.not_false]
  try simp only [dSeq]
  try simp only [dIfS, dTest, dOp, dVar, dC, dCB, daCons, daNil, dSet, dRet, dNext, dDrop, dAsg, dPar, dAug, dAddI, dBreak, dCont, dRetN, slot, dLen, dCmpI, dSub, dAdd, dMul, dDiv, dMod, dPow, dNeg, dUn, dIx, dInt1, dAbs, dChain, dAnd, dOr, dNot, dAndV, dOrV, dNotV, dTru, dTruB, dIf, dTup, dLst, mkL, dSlice, dSl, doNone, doSome, dSum, dAll, dAny, dList, dTuple, dMax, dMin, eq_ii, ne_ii, eq_ss, ne_ss, eq_bb, ne_bb, eq_nn, ne_nn, dIsN, dNotN, dIsB, dNotB, gN, gT, gsNil, gsCons, gSet, dBM, dAppend, dClear, dFld, dFldS, dProp, dCall, dMeth, dMake, dCallO, dFor, dLc, diR1, diR2, diL, diT, diRv, diS, diE, dFmt, dFStr, dJs, dCallN, dFrzE, frz_l, in_ss, notin_ss, drR1, drR2, dListR, dRaise, dRaise0, dTryAs, dTry, dXf, dAddO, dInO, isL, insOf, Option.some.injEq, List.cons.injEq, D.int.injEq, D.bl.injEq, D.str.injEq, D.lst.injEq, D.tup.injEq, D.ref.injEq, MO.lst.injEq, MO.ins.injEq, mset_mset, and_true, true_and, and_self, and_assoc, exists_eq_left', exists_eq_left, exists_and_left, exists_and_right, exists_eq', List.set_cons_zero, List.set_cons_succ, decide_eq_true_eq, sqOf, lsOf, List.length_cons, List.length_nil, sizeLine_eq, List.append_nil, List.cons_append, List.nil_append, if_true, if_false, Bool.false_eq_true, reduceCtorEq, reduceIte, Nat.reduceAdd, Nat.reduceLeDiff, mset_same, Option.bind_some, List.length_map, Prod.mk.injEq, at0, at1, at2, at3, ix30, ix31, ix32, ix20, ix21, ix10, isi_ii, isi_ib, isi_ll, isi_bb, isi_ss, isi_tt, isi_is, isi_si, Bool.not_true, Bool.not_false]
  refine ⟨by omega, by omega, by omega, by omega, ?_⟩
  refine ⟨fun i r m' => m' = m ∧ (∃ o, r = [some (il st), some (.int st.length), o]) ∧ ∀ e, 1 ≤ e → e < 1 + i → ¬ (st.length % e = 0 ∧ st = st.drop e ++ st.take e), ⟨rfl, ⟨_, rfl⟩, fun e h1 h2 => by omega⟩, ?_, ?_⟩
  · rintro i d r m' hd ⟨rfl, ⟨o, rfl⟩, hn⟩
    obtain ⟨rfl, hi⟩ := rngD_at hd
    have hi' : i < st.length := by omega
    try simp only [dIfS, dTest, dOp, dVar, dC, dCB, daCons, daNil, dSet, dRet, dNext, dDrop, dAsg, dPar, dAug, dAddI, dBreak, dCont, dRetN, slot, dLen, dCmpI, dSub, dAdd, dMul, dDiv, dMod, dPow, dNeg, dUn, dIx, dInt1, dAbs, dChain, dAnd, dOr, dNot, dAndV, dOrV, dNotV, dTru, dTruB, dIf, dTup, dLst, mkL, dSlice, dSl, doNone, doSome, dSum, dAll, dAny, dList, dTuple, dMax, dMin, eq_ii, ne_ii, eq_ss, ne_ss, eq_bb, ne_bb, eq_nn, ne_nn, dIsN, dNotN, dIsB, dNotB, gN, gT, gsNil, gsCons, gSet, dBM, dAppend, dClear, dFld, dFldS, dProp, dCall, dMeth, dMake, dCallO, dFor, dLc, diR1, diR2, diL, diT, diRv, diS, diE, dFmt, dFStr, dJs, dCallN, dFrzE, frz_l, in_ss, notin_ss, drR1, drR2, dListR, dRaise, dRaise0, dTryAs, dTry, dXf, dAddO, dInO, isL, insOf, Option.some.injEq, List.cons.injEq, D.int.injEq, D.bl.injEq, D.str.injEq, D.lst.injEq, D.tup.injEq, D.ref.injEq, MO.lst.injEq, MO.ins.injEq, mset_mset, and_true, true_and, and_self, and_assoc, exists_eq_left', exists_eq_left, exists_and_left, exists_and_right, exists_eq', List.set_cons_zero, List.set_cons_succ, decide_eq_true_eq, sqOf, lsOf, List.length_cons, List.length_nil, sizeLine_eq, List.append_nil, List.cons_append, List.nil_append, if_true, if_false, Bool.false_eq_true, reduceCtorEq, reduceIte, Nat.reduceAdd, Nat.reduceLeDiff, mset_same, Option.bind_some, List.length_map, Prod.mk.injEq, at0, at1, at2, at3, ix30, ix31, ix32, ix20, ix21, ix10, isi_ii, isi_ib, isi_ll, isi_bb, isi_ss, isi_tt, isi_is, isi_si, Bool.not_true, Bool.not_false]
    have hle : 1 + i ≤ st.length := by omega
    refine ⟨by omega, ?_⟩
    have em : (st.length : Int) % (1 + (i : Int)) = ((st.length % (1 + i) : Nat) : Int) := by
      rw [Int.natCast_emod]
      rfl
    rw [em]
    by_cases hz : st.length % (1 + i) = 0
    · rw [if_pos (by simp [hz])]
      have ec : (1 + (i : Int)) = ((1 + i : Nat) : Int) := by omega
      rw [ec, cut_from, cut_to, rot_map]
      refine ⟨by simp; omega, dEq_ints (ns := st) (ms := st.drop (1 + i) ++ st.take (1 + i)) rfl rfl ?_⟩
      try simp only [dIfS, dTest, dOp, dVar, dC, dCB, daCons, daNil, dSet, dRet, dNext, dDrop, dAsg, dPar, dAug, dAddI, dBreak, dCont, dRetN, slot, dLen, dCmpI, dSub, dAdd, dMul, dDiv, dMod, dPow, dNeg, dUn, dIx, dInt1, dAbs, dChain, dAnd, dOr, dNot, dAndV, dOrV, dNotV, dTru, dTruB, dIf, dTup, dLst, mkL, dSlice, dSl, doNone, doSome, dSum, dAll, dAny, dList, dTuple, dMax, dMin, eq_ii, ne_ii, eq_ss, ne_ss, eq_bb, ne_bb, eq_nn, ne_nn, dIsN, dNotN, dIsB, dNotB, gN, gT, gsNil, gsCons, gSet, dBM, dAppend, dClear, dFld, dFldS, dProp, dCall, dMeth, dMake, dCallO, dFor, dLc, diR1, diR2, diL, diT, diRv, diS, diE, dFmt, dFStr, dJs, dCallN, dFrzE, frz_l, in_ss, notin_ss, drR1, drR2, dListR, dRaise, dRaise0, dTryAs, dTry, dXf, dAddO, dInO, isL, insOf, Option.some.injEq, List.cons.injEq, D.int.injEq, D.bl.injEq, D.str.injEq, D.lst.injEq, D.tup.injEq, D.ref.injEq, MO.lst.injEq, MO.ins.injEq, mset_mset, and_true, true_and, and_self, and_assoc, exists_eq_left', exists_eq_left, exists_and_left, exists_and_right, exists_eq', List.set_cons_zero, List.set_cons_succ, decide_eq_true_eq, sqOf, lsOf, List.length_cons, List.length_nil, sizeLine_eq, List.append_nil, List.cons_append, List.nil_append, if_true, if_false, Bool.false_eq_true, reduceCtorEq, reduceIte, Nat.reduceAdd, Nat.reduceLeDiff, mset_same, Option.bind_some, List.length_map, Prod.mk.injEq, at0, at1, at2, at3, ix30, ix31, ix32, ix20, ix21, ix10, isi_ii, isi_ib, isi_ll, isi_bb, isi_ss, isi_tt, isi_is, isi_si, Bool.not_true, Bool.not_false]
      by_cases hq : st = st.drop (1 + i) ++ st.take (1 + i)
      · rw [if_pos hq]
        exact q (1 + i) ⟨by omega, hle, hz, hq, fun e h1 h2 => hn e h1 h2⟩
      · rw [if_neg hq]
        refine fun e h1 h2 => ?_
        by_cases he : e < 1 + i
        · exact hn e h1 he
        · obtain rfl : e = 1 + i := by omega
          exact fun z => hq z.2
    · rw [if_neg (by simpa using by omega)]
      refine fun e h1 h2 => ?_
      by_cases he : e < 1 + i
      · exact hn e h1 he
      · obtain rfl : e = 1 + i := by omega
        exact fun z => hz z.1
  · rintro r m' ⟨rfl, ⟨o, rfl⟩, hn⟩
    refine absurd ⟨Nat.mod_self _, ?_⟩ (hn st.length l1 (by rw [rngD_len]; omega))
    simp
theorem pure_normal_form {K : Fr0} {mg : Str → Option Value} (T : Txt K mg) (ds : List D) (m : M) (Q : D → M → Prop) (E : XD → M → Prop) (h : sp_normal_form K ds m Q E) : t_normal_form K (fun x _ m => E x m) { nx := fun _ m => Q .non m, rt := Q } (startD nm_normal_form ds) m := by
  obtain ⟨cs, p, g, rfl, ⟨p1, p2⟩, hl, hg, q⟩ := h
  show t_normal_form K _ _ [some (il cs), some (.int p), some (.int g), none, none, none, none, none, none, none, none] m
  unfold t_normal_form
  obtain ⟨pn, rfl⟩ : ∃ n : Nat, p = n := ⟨p.toNat, by omega⟩
  rw [Int.toNat_natCast] at q
  generalize hv : val cs pn g = v at q
  have call : ∀ (i : Nat), i ≤ 1000000 → ∀ Q' : D → M → Prop, Q' (.int (v i)) m → ∀ E', sp_value_at K [il cs, .int pn, .int g, .int i] m Q' E' := fun i hi Q' q' E' => ⟨cs, pn, g, i, rfl, ⟨p1, p2⟩, by omega, hg, ⟨by omega, Nat.lt_of_le_of_lt (show (i : Int).natAbs ≤ 1000000 by omega) sz6⟩, by rw [Int.toNat_natCast, Int.toNat_natCast, hv]; exact q'⟩
  have hper : Per v pn (cs.length - pn) g := by rw [← hv]; exact val_per (by omega) (by omega)
  generalize hf : cs.length - pn = f at hper
  try simp only [dSeq]
  try simp only [dIfS, dTest, dOp, dVar, dC, dCB, daCons, daNil, dSet, dRet, dNext, dDrop, dAsg, dPar, dAug, dAddI, dBreak, dCont, dRetN, slot, dLen, dCmpI, dSub, dAdd, dMul, dDiv, dMod, dPow, dNeg, dUn, dIx, dInt1, dAbs, dChain, dAnd, dOr, dNot, dAndV, dOrV, dNotV, dTru, dTruB, dIf, dTup, dLst, mkL, dSlice, dSl, doNone, doSome, dSum, dAll, dAny, dList, dTuple, dMax, dMin, eq_ii, ne_ii, eq_ss, ne_ss, eq_bb, ne_bb, eq_nn, ne_nn, dIsN, dNotN, dIsB, dNotB, gN, gT, gsNil, gsCons, gSet, dBM, dAppend, dClear, dFld, dFldS, dProp, dCall, dMeth, dMake, dCallO, dFor, dLc, diR1, diR2, diL, diT, diRv, diS, diE, dFmt, dFStr, dJs, dCallN, dFrzE, frz_l, in_ss, notin_ss, drR1, drR2, dListR, dRaise, dRaise0, dTryAs, dTry, dXf, dAddO, dInO, isL, insOf, Option.some.injEq, List.cons.injEq, D.int.injEq, D.bl.injEq, D.str.injEq, D.lst.injEq, D.tup.injEq, D.ref.injEq, MO.lst.injEq, MO.ins.injEq, mset_mset, and_true, true_and, and_self, and_assoc, exists_eq_left', exists_eq_left, exists_and_left, exists_and_right, exists_eq', List.set_cons_zero, List.set_cons_succ, decide_eq_true_eq, sqOf, lsOf, List.length_cons, List.length_nil, sizeLine_eq, List.append_nil, List.cons_append, List.nil_append, if_true, if_false, Bool.false_eq_true, reduceCtorEq, reduceIte, Nat.reduceAdd, Nat.reduceLeDiff, mset_same, Option.bind_some, List.length_map, Prod.mk.injEq, at0, at1, at2, at3, ix30, ix31, ix32, ix20, ix21, ix10, isi_ii, isi_ib, isi_ll, isi_bb, isi_ss, isi_tt, isi_is, isi_si, Bool.not_true, Bool.not_false]
  try simp only [dSeq]
  try simp only [dIfS, dTest, dOp, dVar, dC, dCB, daCons, daNil, dSet, dRet, dNext, dDrop, dAsg, dPar, dAug, dAddI, dBreak, dCont, dRetN, slot, dLen, dCmpI, dSub, dAdd, dMul, dDiv, dMod, dPow, dNeg, dUn, dIx, dInt1, dAbs, dChain, dAnd, dOr, dNot, dAndV, dOrV, dNotV, dTru, dTruB, dIf, dTup, dLst, mkL, dSlice, dSl, doNone, doSome, dSum, dAll, dAny, dList, dTuple, dMax, dMin, eq_ii, ne_ii, eq_ss, ne_ss, eq_bb, ne_bb, eq_nn, ne_nn, dIsN, dNotN, dIsB, dNotB, gN, gT, gsNil, gsCons, gSet, dBM, dAppend, dClear, dFld, dFldS, dProp, dCall, dMeth, dMake, dCallO, dFor, dLc, diR1, diR2, diL, diT, diRv, diS, diE, dFmt, dFStr, dJs, dCallN, dFrzE, frz_l, in_ss, notin_ss, drR1, drR2, dListR, dRaise, dRaise0, dTryAs, dTry, dXf, dAddO, dInO, isL, insOf, Option.some.injEq, List.cons.injEq, D.int.injEq, D.bl.injEq, D.str.injEq, D.lst.injEq, D.tup.injEq, D.ref.injEq, MO.lst.injEq, MO.ins.injEq, mset_mset, and_true, true_and, and_self, and_assoc, exists_eq_left', exists_eq_left, exists_and_left, exists_and_right, exists_eq', List.set_cons_zero, List.set_cons_succ, decide_eq_true_eq, sqOf, lsOf, List.length_cons, List.length_nil, sizeLine_eq, List.append_nil, List.cons_append, List.nil_append, if_true, if_false, Bool.false_eq_true, reduceCtorEq, reduceIte, Nat.reduceAdd, Nat.reduceLeDiff, mset_same, Option.bind_some, List.length_map, Prod.mk.injEq, at0, at1, at2, at3, ix30, ix31, ix32, ix20, ix21, ix10, isi_ii, isi_ib, isi_ll, isi_bb, isi_ss, isi_tt, isi_is, isi_si, Bool.not_true, Bool.not_false]
  refine ⟨by omega, by omega, ?_⟩
  refine lc_rng (fun k => .int (v (f + k))) (by rw [sizeLine_eq]; omega) (fun k hk Q' q' => ?_) ?_
  · simp only [wipeD]
    try simp only [dIfS, dTest, dOp, dVar, dC, dCB, daCons, daNil, dSet, dRet, dNext, dDrop, dAsg, dPar, dAug, dAddI, dBreak, dCont, dRetN, slot, dLen, dCmpI, dSub, dAdd, dMul, dDiv, dMod, dPow, dNeg, dUn, dIx, dInt1, dAbs, dChain, dAnd, dOr, dNot, dAndV, dOrV, dNotV, dTru, dTruB, dIf, dTup, dLst, mkL, dSlice, dSl, doNone, doSome, dSum, dAll, dAny, dList, dTuple, dMax, dMin, eq_ii, ne_ii, eq_ss, ne_ss, eq_bb, ne_bb, eq_nn, ne_nn, dIsN, dNotN, dIsB, dNotB, gN, gT, gsNil, gsCons, gSet, dBM, dAppend, dClear, dFld, dFldS, dProp, dCall, dMeth, dMake, dCallO, dFor, dLc, diR1, diR2, diL, diT, diRv, diS, diE, dFmt, dFStr, dJs, dCallN, dFrzE, frz_l, in_ss, notin_ss, drR1, drR2, dListR, dRaise, dRaise0, dTryAs, dTry, dXf, dAddO, dInO, isL, insOf, Option.some.injEq, List.cons.injEq, D.int.injEq, D.bl.injEq, D.str.injEq, D.lst.injEq, D.tup.injEq, D.ref.injEq, MO.lst.injEq, MO.ins.injEq, mset_mset, and_true, true_and, and_self, and_assoc, exists_eq_left', exists_eq_left, exists_and_left, exists_and_right, exists_eq', List.set_cons_zero, List.set_cons_succ, decide_eq_true_eq, sqOf, lsOf, List.length_cons, List.length_nil, sizeLine_eq, List.append_nil, List.cons_append, List.nil_append, if_true, if_false, Bool.false_eq_true, reduceCtorEq, reduceIte, Nat.reduceAdd, Nat.reduceLeDiff, mset_same, Option.bind_some, List.length_map, Prod.mk.injEq, at0, at1, at2, at3, ix30, ix31, ix32, ix20, ix21, ix10, isi_ii, isi_ib, isi_ll, isi_bb, isi_ss, isi_tt, isi_is, isi_si, Bool.not_true, Bool.not_false]
    have e : (cs.length : Int) - pn + (0 + (k : Int)) = ((f + k : Nat) : Int) := by omega
    rw [e]
    exact call _ (by omega) Q' q' _
  try simp only [dSeq]
  try simp only [dIfS, dTest, dOp, dVar, dC, dCB, daCons, daNil, dSet, dRet, dNext, dDrop, dAsg, dPar, dAug, dAddI, dBreak, dCont, dRetN, slot, dLen, dCmpI, dSub, dAdd, dMul, dDiv, dMod, dPow, dNeg, dUn, dIx, dInt1, dAbs, dChain, dAnd, dOr, dNot, dAndV, dOrV, dNotV, dTru, dTruB, dIf, dTup, dLst, mkL, dSlice, dSl, doNone, doSome, dSum, dAll, dAny, dList, dTuple, dMax, dMin, eq_ii, ne_ii, eq_ss, ne_ss, eq_bb, ne_bb, eq_nn, ne_nn, dIsN, dNotN, dIsB, dNotB, gN, gT, gsNil, gsCons, gSet, dBM, dAppend, dClear, dFld, dFldS, dProp, dCall, dMeth, dMake, dCallO, dFor, dLc, diR1, diR2, diL, diT, diRv, diS, diE, dFmt, dFStr, dJs, dCallN, dFrzE, frz_l, in_ss, notin_ss, drR1, drR2, dListR, dRaise, dRaise0, dTryAs, dTry, dXf, dAddO, dInO, isL, insOf, Option.some.injEq, List.cons.injEq, D.int.injEq, D.bl.injEq, D.str.injEq, D.lst.injEq, D.tup.injEq, D.ref.injEq, MO.lst.injEq, MO.ins.injEq, mset_mset, and_true, true_and, and_self, and_assoc, exists_eq_left', exists_eq_left, exists_and_left, exists_and_right, exists_eq', List.set_cons_zero, List.set_cons_succ, decide_eq_true_eq, sqOf, lsOf, List.length_cons, List.length_nil, sizeLine_eq, List.append_nil, List.cons_append, List.nil_append, if_true, if_false, Bool.false_eq_true, reduceCtorEq, reduceIte, Nat.reduceAdd, Nat.reduceLeDiff, mset_same, Option.bind_some, List.length_map, Prod.mk.injEq, at0, at1, at2, at3, ix30, ix31, ix32, ix20, ix21, ix10, isi_ii, isi_ib, isi_ll, isi_bb, isi_ss, isi_tt, isi_is, isi_si, Bool.not_true, Bool.not_false]
  refine ⟨by omega, by omega, ?_⟩
  refine lc_rng (fun k => .int (dl v (f + k))) (by rw [sizeLine_eq]; omega) (fun k hk Q' q' => ?_) ?_
  · simp only [wipeD]
    try simp only [dIfS, dTest, dOp, dVar, dC, dCB, daCons, daNil, dSet, dRet, dNext, dDrop, dAsg, dPar, dAug, dAddI, dBreak, dCont, dRetN, slot, dLen, dCmpI, dSub, dAdd, dMul, dDiv, dMod, dPow, dNeg, dUn, dIx, dInt1, dAbs, dChain, dAnd, dOr, dNot, dAndV, dOrV, dNotV, dTru, dTruB, dIf, dTup, dLst, mkL, dSlice, dSl, doNone, doSome, dSum, dAll, dAny, dList, dTuple, dMax, dMin, eq_ii, ne_ii, eq_ss, ne_ss, eq_bb, ne_bb, eq_nn, ne_nn, dIsN, dNotN, dIsB, dNotB, gN, gT, gsNil, gsCons, gSet, dBM, dAppend, dClear, dFld, dFldS, dProp, dCall, dMeth, dMake, dCallO, dFor, dLc, diR1, diR2, diL, diT, diRv, diS, diE, dFmt, dFStr, dJs, dCallN, dFrzE, frz_l, in_ss, notin_ss, drR1, drR2, dListR, dRaise, dRaise0, dTryAs, dTry, dXf, dAddO, dInO, isL, insOf, Option.some.injEq, List.cons.injEq, D.int.injEq, D.bl.injEq, D.str.injEq, D.lst.injEq, D.tup.injEq, D.ref.injEq, MO.lst.injEq, MO.ins.injEq, mset_mset, and_true, true_and, and_self, and_assoc, exists_eq_left', exists_eq_left, exists_and_left, exists_and_right, exists_eq', List.set_cons_zero, List.set_cons_succ, decide_eq_true_eq, sqOf, lsOf, List.length_cons, List.length_nil, sizeLine_eq, List.append_nil, List.cons_append, List.nil_append, if_true, if_false, Bool.false_eq_true, reduceCtorEq, reduceIte, Nat.reduceAdd, Nat.reduceLeDiff, mset_same, Option.bind_some, List.length_map, Prod.mk.injEq, at0, at1, at2, at3, ix30, ix31, ix32, ix20, ix21, ix10, isi_ii, isi_ib, isi_ll, isi_bb, isi_ss, isi_tt, isi_is, isi_si, Bool.not_true, Bool.not_false]
    rw [atI_rng (by omega) (by omega)]
    refine ⟨_, rfl, ?_⟩
    rw [atI_rng (by omega) (by omega)]
    refine ⟨_, rfl, ?_⟩
    have e1 : (0 + (k : Int) + 1).toNat = k + 1 := by omega
    have e2 : (0 + (k : Int)).toNat = k := by omega
    rw [e1, e2]
    exact q'
  try simp only [dSeq]
  try simp only [dIfS, dTest, dOp, dVar, dC, dCB, daCons, daNil, dSet, dRet, dNext, dDrop, dAsg, dPar, dAug, dAddI, dBreak, dCont, dRetN, slot, dLen, dCmpI, dSub, dAdd, dMul, dDiv, dMod, dPow, dNeg, dUn, dIx, dInt1, dAbs, dChain, dAnd, dOr, dNot, dAndV, dOrV, dNotV, dTru, dTruB, dIf, dTup, dLst, mkL, dSlice, dSl, doNone, doSome, dSum, dAll, dAny, dList, dTuple, dMax, dMin, eq_ii, ne_ii, eq_ss, ne_ss, eq_bb, ne_bb, eq_nn, ne_nn, dIsN, dNotN, dIsB, dNotB, gN, gT, gsNil, gsCons, gSet, dBM, dAppend, dClear, dFld, dFldS, dProp, dCall, dMeth, dMake, dCallO, dFor, dLc, diR1, diR2, diL, diT, diRv, diS, diE, dFmt, dFStr, dJs, dCallN, dFrzE, frz_l, in_ss, notin_ss, drR1, drR2, dListR, dRaise, dRaise0, dTryAs, dTry, dXf, dAddO, dInO, isL, insOf, Option.some.injEq, List.cons.injEq, D.int.injEq, D.bl.injEq, D.str.injEq, D.lst.injEq, D.tup.injEq, D.ref.injEq, MO.lst.injEq, MO.ins.injEq, mset_mset, and_true, true_and, and_self, and_assoc, exists_eq_left', exists_eq_left, exists_and_left, exists_and_right, exists_eq', List.set_cons_zero, List.set_cons_succ, decide_eq_true_eq, sqOf, lsOf, List.length_cons, List.length_nil, sizeLine_eq, List.append_nil, List.cons_append, List.nil_append, if_true, if_false, Bool.false_eq_true, reduceCtorEq, reduceIte, Nat.reduceAdd, Nat.reduceLeDiff, mset_same, Option.bind_some, List.length_map, Prod.mk.injEq, at0, at1, at2, at3, ix30, ix31, ix32, ix20, ix21, ix10, isi_ii, isi_ib, isi_ll, isi_bb, isi_ss, isi_tt, isi_is, isi_si, Bool.not_true, Bool.not_false]
  rw [Int.toNat_natCast, map_int]
  refine ⟨stp v f pn, rfl, ⟨by rw [stp_len]; omega, by rw [stp_len]; omega⟩, fun L hL => ?_⟩
  have hLp : L ≤ pn := by have := hL.le; rw [stp_len] at this; exact this
  have hL1 := hL.pos
  try simp only [dSeq]
  try simp only [dIfS, dTest, dOp, dVar, dC, dCB, daCons, daNil, dSet, dRet, dNext, dDrop, dAsg, dPar, dAug, dAddI, dBreak, dCont, dRetN, slot, dLen, dCmpI, dSub, dAdd, dMul, dDiv, dMod, dPow, dNeg, dUn, dIx, dInt1, dAbs, dChain, dAnd, dOr, dNot, dAndV, dOrV, dNotV, dTru, dTruB, dIf, dTup, dLst, mkL, dSlice, dSl, doNone, doSome, dSum, dAll, dAny, dList, dTuple, dMax, dMin, eq_ii, ne_ii, eq_ss, ne_ss, eq_bb, ne_bb, eq_nn, ne_nn, dIsN, dNotN, dIsB, dNotB, gN, gT, gsNil, gsCons, gSet, dBM, dAppend, dClear, dFld, dFldS, dProp, dCall, dMeth, dMake, dCallO, dFor, dLc, diR1, diR2, diL, diT, diRv, diS, diE, dFmt, dFStr, dJs, dCallN, dFrzE, frz_l, in_ss, notin_ss, drR1, drR2, dListR, dRaise, dRaise0, dTryAs, dTry, dXf, dAddO, dInO, isL, insOf, Option.some.injEq, List.cons.injEq, D.int.injEq, D.bl.injEq, D.str.injEq, D.lst.injEq, D.tup.injEq, D.ref.injEq, MO.lst.injEq, MO.ins.injEq, mset_mset, and_true, true_and, and_self, and_assoc, exists_eq_left', exists_eq_left, exists_and_left, exists_and_right, exists_eq', List.set_cons_zero, List.set_cons_succ, decide_eq_true_eq, sqOf, lsOf, List.length_cons, List.length_nil, sizeLine_eq, List.append_nil, List.cons_append, List.nil_append, if_true, if_false, Bool.false_eq_true, reduceCtorEq, reduceIte, Nat.reduceAdd, Nat.reduceLeDiff, mset_same, Option.bind_some, List.length_map, Prod.mk.injEq, at0, at1, at2, at3, ix30, ix31, ix32, ix20, ix21, ix10, isi_ii, isi_ib, isi_ll, isi_bb, isi_ss, isi_tt, isi_is, isi_si, Bool.not_true, Bool.not_false]
  simp only [cut_to]
  refine ⟨(stp v f pn).take L, by rw [← List.map_take]; rfl, ?_⟩
  rw [stp_take v f hLp, sum_stp]
  generalize hR : v (f + L) - v f = R
  try simp only [dSeq]
  try simp only [dIfS, dTest, dOp, dVar, dC, dCB, daCons, daNil, dSet, dRet, dNext, dDrop, dAsg, dPar, dAug, dAddI, dBreak, dCont, dRetN, slot, dLen, dCmpI, dSub, dAdd, dMul, dDiv, dMod, dPow, dNeg, dUn, dIx, dInt1, dAbs, dChain, dAnd, dOr, dNot, dAndV, dOrV, dNotV, dTru, dTruB, dIf, dTup, dLst, mkL, dSlice, dSl, doNone, doSome, dSum, dAll, dAny, dList, dTuple, dMax, dMin, eq_ii, ne_ii, eq_ss, ne_ss, eq_bb, ne_bb, eq_nn, ne_nn, dIsN, dNotN, dIsB, dNotB, gN, gT, gsNil, gsCons, gSet, dBM, dAppend, dClear, dFld, dFldS, dProp, dCall, dMeth, dMake, dCallO, dFor, dLc, diR1, diR2, diL, diT, diRv, diS, diE, dFmt, dFStr, dJs, dCallN, dFrzE, frz_l, in_ss, notin_ss, drR1, drR2, dListR, dRaise, dRaise0, dTryAs, dTry, dXf, dAddO, dInO, isL, insOf, Option.some.injEq, List.cons.injEq, D.int.injEq, D.bl.injEq, D.str.injEq, D.lst.injEq, D.tup.injEq, D.ref.injEq, MO.lst.injEq, MO.ins.injEq, mset_mset, and_true, true_and, and_self, and_assoc, exists_eq_left', exists_eq_left, exists_and_left, exists_and_right, exists_eq', List.set_cons_zero, List.set_cons_succ, decide_eq_true_eq, sqOf, lsOf, List.length_cons, List.length_nil, sizeLine_eq, List.append_nil, List.cons_append, List.nil_append, if_true, if_false, Bool.false_eq_true, reduceCtorEq, reduceIte, Nat.reduceAdd, Nat.reduceLeDiff, mset_same, Option.bind_some, List.length_map, Prod.mk.injEq, at0, at1, at2, at3, ix30, ix31, ix32, ix20, ix21, ix10, isi_ii, isi_ib, isi_ll, isi_bb, isi_ss, isi_tt, isi_is, isi_si, Bool.not_true, Bool.not_false]
  have hS0 := per_first hper (by omega) hL
  rw [hR] at hS0
  obtain ⟨u, u1, u2, u3⟩ := gain_mul hper (by omega) hL
  rw [hR] at u3
  have hRg := rise_le u3 u2
  simp only [dSeq]
  refine ⟨fun n r m' => m' = m ∧ (∃ o4 o5 o6, r = [some (il cs), some (.int pn), some (.int g), some (.int (cs.length - pn)), o4, o5, o6, some (.int L), some (.int R), some (.int n), none]) ∧ n ≤ f ∧ Per v L n R, ⟨f, rfl, ⟨_, _, _, by rw [show ((f : Nat) : Int) = (cs.length : Int) - pn by omega]⟩, Nat.le_refl _, hS0⟩, ?_⟩
  rintro n r m' ⟨rfl, ⟨o4, o5, o6, rfl⟩, hn, hP⟩
  have fin : (n = 0 ∨ v (n - 1 + L) ≠ v (n - 1) + R) → NF v L R n := fun hx => by
    rw [← hR] at hx hP ⊢
    exact nf_of hper (by omega) hL hP hx
  have done : NF v L R n → dSeq (dSet 10 (dLc false (diR1 (daCons (dOp (dAdd false) (dVar 9) (dVar 7)) daNil)) (CT.one 5) [5] dYes (dCall (sp_value_at K) WD0 [] (daCons (dVar 0) (daCons (dVar 1) (daCons (dVar 2) (daCons (dVar 5) daNil))))))) (dRet (dTup (daCons (dVar 10) (daCons (dVar 7) (daCons (dVar 8) (daCons (dVar 9) daNil)))))) { nx := fun x m => Q D.non m, rt := Q } [some (il cs), some (.int pn), some (.int g), some (.int (cs.length - pn)), o4, o5, o6, some (.int L), some (.int R), some (.int n), none] m' := by
    intro nf
    try simp only [dSeq]
    try simp only [dIfS, dTest, dOp, dVar, dC, dCB, daCons, daNil, dSet, dRet, dNext, dDrop, dAsg, dPar, dAug, dAddI, dBreak, dCont, dRetN, slot, dLen, dCmpI, dSub, dAdd, dMul, dDiv, dMod, dPow, dNeg, dUn, dIx, dInt1, dAbs, dChain, dAnd, dOr, dNot, dAndV, dOrV, dNotV, dTru, dTruB, dIf, dTup, dLst, mkL, dSlice, dSl, doNone, doSome, dSum, dAll, dAny, dList, dTuple, dMax, dMin, eq_ii, ne_ii, eq_ss, ne_ss, eq_bb, ne_bb, eq_nn, ne_nn, dIsN, dNotN, dIsB, dNotB, gN, gT, gsNil, gsCons, gSet, dBM, dAppend, dClear, dFld, dFldS, dProp, dCall, dMeth, dMake, dCallO, dFor, dLc, diR1, diR2, diL, diT, diRv, diS, diE, dFmt, dFStr, dJs, dCallN, dFrzE, frz_l, in_ss, notin_ss, drR1, drR2, dListR, dRaise, dRaise0, dTryAs, dTry, dXf, dAddO, dInO, isL, insOf, Option.some.injEq, List.cons.injEq, D.int.injEq, D.bl.injEq, D.str.injEq, D.lst.injEq, D.tup.injEq, D.ref.injEq, MO.lst.injEq, MO.ins.injEq, mset_mset, and_true, true_and, and_self, and_assoc, exists_eq_left', exists_eq_left, exists_and_left, exists_and_right, exists_eq', List.set_cons_zero, List.set_cons_succ, decide_eq_true_eq, sqOf, lsOf, List.length_cons, List.length_nil, sizeLine_eq, List.append_nil, List.cons_append, List.nil_append, if_true, if_false, Bool.false_eq_true, reduceCtorEq, reduceIte, Nat.reduceAdd, Nat.reduceLeDiff, mset_same, Option.bind_some, List.length_map, Prod.mk.injEq, at0, at1, at2, at3, ix30, ix31, ix32, ix20, ix21, ix10, isi_ii, isi_ib, isi_ll, isi_bb, isi_ss, isi_tt, isi_is, isi_si, Bool.not_true, Bool.not_false]
    refine ⟨by omega, by omega, ?_⟩
    refine lc_rng (fun k => .int (v k)) (by rw [sizeLine_eq]; omega) (fun k hk Q' q' => ?_) ?_
    · simp only [wipeD]
      try simp only [dIfS, dTest, dOp, dVar, dC, dCB, daCons, daNil, dSet, dRet, dNext, dDrop, dAsg, dPar, dAug, dAddI, dBreak, dCont, dRetN, slot, dLen, dCmpI, dSub, dAdd, dMul, dDiv, dMod, dPow, dNeg, dUn, dIx, dInt1, dAbs, dChain, dAnd, dOr, dNot, dAndV, dOrV, dNotV, dTru, dTruB, dIf, dTup, dLst, mkL, dSlice, dSl, doNone, doSome, dSum, dAll, dAny, dList, dTuple, dMax, dMin, eq_ii, ne_ii, eq_ss, ne_ss, eq_bb, ne_bb, eq_nn, ne_nn, dIsN, dNotN, dIsB, dNotB, gN, gT, gsNil, gsCons, gSet, dBM, dAppend, dClear, dFld, dFldS, dProp, dCall, dMeth, dMake, dCallO, dFor, dLc, diR1, diR2, diL, diT, diRv, diS, diE, dFmt, dFStr, dJs, dCallN, dFrzE, frz_l, in_ss, notin_ss, drR1, drR2, dListR, dRaise, dRaise0, dTryAs, dTry, dXf, dAddO, dInO, isL, insOf, Option.some.injEq, List.cons.injEq, D.int.injEq, D.bl.injEq, D.str.injEq, D.lst.injEq, D.tup.injEq, D.ref.injEq, MO.lst.injEq, MO.ins.injEq, mset_mset, and_true, true_and, and_self, and_assoc, exists_eq_left', exists_eq_left, exists_and_left, exists_and_right, exists_eq', List.set_cons_zero, List.set_cons_succ, decide_eq_true_eq, sqOf, lsOf, List.length_cons, List.length_nil, sizeLine_eq, List.append_nil, List.cons_append, List.nil_append, if_true, if_false, Bool.false_eq_true, reduceCtorEq, reduceIte, Nat.reduceAdd, Nat.reduceLeDiff, mset_same, Option.bind_some, List.length_map, Prod.mk.injEq, at0, at1, at2, at3, ix30, ix31, ix32, ix20, ix21, ix10, isi_ii, isi_ib, isi_ll, isi_bb, isi_ss, isi_tt, isi_is, isi_si, Bool.not_true, Bool.not_false]
      have e : (0 + (k : Int)) = ((k : Nat) : Int) := by omega
      rw [e]
      exact call _ (by omega) Q' q' _
    rw [map_int, show ((n : Int) + L).toNat = n + L by omega]
    exact q L R n nf (by omega) (by omega) hRg
  try simp only [dIfS, dTest, dOp, dVar, dC, dCB, daCons, daNil, dSet, dRet, dNext, dDrop, dAsg, dPar, dAug, dAddI, dBreak, dCont, dRetN, slot, dLen, dCmpI, dSub, dAdd, dMul, dDiv, dMod, dPow, dNeg, dUn, dIx, dInt1, dAbs, dChain, dAnd, dOr, dNot, dAndV, dOrV, dNotV, dTru, dTruB, dIf, dTup, dLst, mkL, dSlice, dSl, doNone, doSome, dSum, dAll, dAny, dList, dTuple, dMax, dMin, eq_ii, ne_ii, eq_ss, ne_ss, eq_bb, ne_bb, eq_nn, ne_nn, dIsN, dNotN, dIsB, dNotB, gN, gT, gsNil, gsCons, gSet, dBM, dAppend, dClear, dFld, dFldS, dProp, dCall, dMeth, dMake, dCallO, dFor, dLc, diR1, diR2, diL, diT, diRv, diS, diE, dFmt, dFStr, dJs, dCallN, dFrzE, frz_l, in_ss, notin_ss, drR1, drR2, dListR, dRaise, dRaise0, dTryAs, dTry, dXf, dAddO, dInO, isL, insOf, Option.some.injEq, List.cons.injEq, D.int.injEq, D.bl.injEq, D.str.injEq, D.lst.injEq, D.tup.injEq, D.ref.injEq, MO.lst.injEq, MO.ins.injEq, mset_mset, and_true, true_and, and_self, and_assoc, exists_eq_left', exists_eq_left, exists_and_left, exists_and_right, exists_eq', List.set_cons_zero, List.set_cons_succ, decide_eq_true_eq, sqOf, lsOf, List.length_cons, List.length_nil, sizeLine_eq, List.append_nil, List.cons_append, List.nil_append, if_true, if_false, Bool.false_eq_true, reduceCtorEq, reduceIte, Nat.reduceAdd, Nat.reduceLeDiff, mset_same, Option.bind_some, List.length_map, Prod.mk.injEq, at0, at1, at2, at3, ix30, ix31, ix32, ix20, ix21, ix10, isi_ii, isi_ib, isi_ll, isi_bb, isi_ss, isi_tt, isi_is, isi_si, Bool.not_true, Bool.not_false]
  by_cases h0 : (n : Int) > 0
  · rw [if_pos h0, atI_ints (by omega) (by omega)]
    refine ⟨_, rfl, ?_⟩
    have e : (n : Int) - 1 + L = ((n - 1 + L : Nat) : Int) := by omega
    rw [e]
    refine call _ (by omega) _ ?_ _
    have e2 : cs.getD ((n : Int) - 1).toNat 0 = v (n - 1) := by
      rw [← hv, val_lt (by omega)]
      congr 1
      omega
    rw [e2]
    try simp only [dIfS, dTest, dOp, dVar, dC, dCB, daCons, daNil, dSet, dRet, dNext, dDrop, dAsg, dPar, dAug, dAddI, dBreak, dCont, dRetN, slot, dLen, dCmpI, dSub, dAdd, dMul, dDiv, dMod, dPow, dNeg, dUn, dIx, dInt1, dAbs, dChain, dAnd, dOr, dNot, dAndV, dOrV, dNotV, dTru, dTruB, dIf, dTup, dLst, mkL, dSlice, dSl, doNone, doSome, dSum, dAll, dAny, dList, dTuple, dMax, dMin, eq_ii, ne_ii, eq_ss, ne_ss, eq_bb, ne_bb, eq_nn, ne_nn, dIsN, dNotN, dIsB, dNotB, gN, gT, gsNil, gsCons, gSet, dBM, dAppend, dClear, dFld, dFldS, dProp, dCall, dMeth, dMake, dCallO, dFor, dLc, diR1, diR2, diL, diT, diRv, diS, diE, dFmt, dFStr, dJs, dCallN, dFrzE, frz_l, in_ss, notin_ss, drR1, drR2, dListR, dRaise, dRaise0, dTryAs, dTry, dXf, dAddO, dInO, isL, insOf, Option.some.injEq, List.cons.injEq, D.int.injEq, D.bl.injEq, D.str.injEq, D.lst.injEq, D.tup.injEq, D.ref.injEq, MO.lst.injEq, MO.ins.injEq, mset_mset, and_true, true_and, and_self, and_assoc, exists_eq_left', exists_eq_left, exists_and_left, exists_and_right, exists_eq', List.set_cons_zero, List.set_cons_succ, decide_eq_true_eq, sqOf, lsOf, List.length_cons, List.length_nil, sizeLine_eq, List.append_nil, List.cons_append, List.nil_append, if_true, if_false, Bool.false_eq_true, reduceCtorEq, reduceIte, Nat.reduceAdd, Nat.reduceLeDiff, mset_same, Option.bind_some, List.length_map, Prod.mk.injEq, at0, at1, at2, at3, ix30, ix31, ix32, ix20, ix21, ix10, isi_ii, isi_ib, isi_ll, isi_bb, isi_ss, isi_tt, isi_is, isi_si, Bool.not_true, Bool.not_false]
    by_cases hx : v (n - 1) + R = v (n - 1 + L)
    · rw [if_pos hx]
      refine ⟨n - 1, by omega, by omega, by omega, fun t ht => ?_⟩
      by_cases htn : n ≤ t
      · exact hP t htn
      · obtain rfl : t = n - 1 := by omega
        exact hx.symm
    · rw [if_neg hx]
      exact done (fin (.inr fun z => hx z.symm))
  · rw [if_neg h0]
    exact done (fin (.inl (by omega)))
section
variable {K : Fr0} {v : Nat → Int} {L S : Nat} {R : Int}
theorem lk_cells : (rowF v L R S).lookup ("cells" : Str) = some (il (tab v (S + L))) := rfl
theorem lk_period : (rowF v L R S).lookup ("period" : Str) = some (.int L) := rfl
theorem lk_gain : (rowF v L R S).lookup ("gain" : Str) = some (.int R) := rfl
theorem lk_start : (rowF v L R S).lookup ("start" : Str) = some (.int S) := rfl
theorem put_row {a b c d : D} : putD "start" d (putD "gain" c (putD "period" b (putD "cells" a []))) = [(("cells" : Str), a), ("period", b), ("gain", c), ("start", d)] := rfl
theorem put1 {a : D} : (putD "cells" a []).length < 1000 := by rw [show putD "cells" a [] = [(("cells" : Str), a)] from rfl]; exact (by decide : 1 < 1000)
theorem put2 {a b : D} : (putD "period" b (putD "cells" a [])).length < 1000 := by rw [show putD "period" b (putD "cells" a []) = [(("cells" : Str), a), ("period", b)] from rfl]; exact (by decide : 2 < 1000)
theorem put3 {a b c : D} : (putD "gain" c (putD "period" b (putD "cells" a []))).length < 1000 := by rw [show putD "gain" c (putD "period" b (putD "cells" a [])) = [(("cells" : Str), a), ("period", b), ("gain", c)] from rfl]; exact (by decide : 3 < 1000)
end
theorem pure_Row_init {K : Fr0} {mg : Str → Option Value} (T : Txt K mg) (ds : List D) (m : M) (Q : D → M → Prop) (E : XD → M → Prop) (h : sp_Row_init K ds m Q E) : t_Row_init K (fun x _ m => E x m) { nx := fun _ m => Q .non m, rt := Q } (startD nm_Row_init ds) m := by
  obtain ⟨a, cs, p, g, rfl, ha, ⟨p1, p2⟩, hl, hg, q⟩ := h
  show t_Row_init K _ _ [some (.ref a), some (il cs), some (.int p), some (.int g), none, none, none, none] m
  unfold t_Row_init
  try simp only [dSeq]
  try simp only [dIfS, dTest, dOp, dVar, dC, dCB, daCons, daNil, dSet, dRet, dNext, dDrop, dAsg, dPar, dAug, dAddI, dBreak, dCont, dRetN, slot, dLen, dCmpI, dSub, dAdd, dMul, dDiv, dMod, dPow, dNeg, dUn, dIx, dInt1, dAbs, dChain, dAnd, dOr, dNot, dAndV, dOrV, dNotV, dTru, dTruB, dIf, dTup, dLst, mkL, dSlice, dSl, doNone, doSome, dSum, dAll, dAny, dList, dTuple, dMax, dMin, eq_ii, ne_ii, eq_ss, ne_ss, eq_bb, ne_bb, eq_nn, ne_nn, dIsN, dNotN, dIsB, dNotB, gN, gT, gsNil, gsCons, gSet, dBM, dAppend, dClear, dFld, dFldS, dProp, dCall, dMeth, dMake, dCallO, dFor, dLc, diR1, diR2, diL, diT, diRv, diS, diE, dFmt, dFStr, dJs, dCallN, dFrzE, frz_l, in_ss, notin_ss, drR1, drR2, dListR, dRaise, dRaise0, dTryAs, dTry, dXf, dAddO, dInO, isL, insOf, Option.some.injEq, List.cons.injEq, D.int.injEq, D.bl.injEq, D.str.injEq, D.lst.injEq, D.tup.injEq, D.ref.injEq, MO.lst.injEq, MO.ins.injEq, mset_mset, and_true, true_and, and_self, and_assoc, exists_eq_left', exists_eq_left, exists_and_left, exists_and_right, exists_eq', List.set_cons_zero, List.set_cons_succ, decide_eq_true_eq, sqOf, lsOf, List.length_cons, List.length_nil, sizeLine_eq, List.append_nil, List.cons_append, List.nil_append, if_true, if_false, Bool.false_eq_true, reduceCtorEq, reduceIte, Nat.reduceAdd, Nat.reduceLeDiff, mset_same, Option.bind_some, List.length_map, Prod.mk.injEq, at0, at1, at2, at3, ix30, ix31, ix32, ix20, ix21, ix10, isi_ii, isi_ib, isi_ll, isi_bb, isi_ss, isi_tt, isi_is, isi_si, Bool.not_true, Bool.not_false]
  rw [if_neg (by omega), if_neg (by omega)]
  try simp only [dSeq]
  try simp only [dIfS, dTest, dOp, dVar, dC, dCB, daCons, daNil, dSet, dRet, dNext, dDrop, dAsg, dPar, dAug, dAddI, dBreak, dCont, dRetN, slot, dLen, dCmpI, dSub, dAdd, dMul, dDiv, dMod, dPow, dNeg, dUn, dIx, dInt1, dAbs, dChain, dAnd, dOr, dNot, dAndV, dOrV, dNotV, dTru, dTruB, dIf, dTup, dLst, mkL, dSlice, dSl, doNone, doSome, dSum, dAll, dAny, dList, dTuple, dMax, dMin, eq_ii, ne_ii, eq_ss, ne_ss, eq_bb, ne_bb, eq_nn, ne_nn, dIsN, dNotN, dIsB, dNotB, gN, gT, gsNil, gsCons, gSet, dBM, dAppend, dClear, dFld, dFldS, dProp, dCall, dMeth, dMake, dCallO, dFor, dLc, diR1, diR2, diL, diT, diRv, diS, diE, dFmt, dFStr, dJs, dCallN, dFrzE, frz_l, in_ss, notin_ss, drR1, drR2, dListR, dRaise, dRaise0, dTryAs, dTry, dXf, dAddO, dInO, isL, insOf, Option.some.injEq, List.cons.injEq, D.int.injEq, D.bl.injEq, D.str.injEq, D.lst.injEq, D.tup.injEq, D.ref.injEq, MO.lst.injEq, MO.ins.injEq, mset_mset, and_true, true_and, and_self, and_assoc, exists_eq_left', exists_eq_left, exists_and_left, exists_and_right, exists_eq', List.set_cons_zero, List.set_cons_succ, decide_eq_true_eq, sqOf, lsOf, List.length_cons, List.length_nil, sizeLine_eq, List.append_nil, List.cons_append, List.nil_append, if_true, if_false, Bool.false_eq_true, reduceCtorEq, reduceIte, Nat.reduceAdd, Nat.reduceLeDiff, mset_same, Option.bind_some, List.length_map, Prod.mk.injEq, at0, at1, at2, at3, ix30, ix31, ix32, ix20, ix21, ix10, isi_ii, isi_ib, isi_ll, isi_bb, isi_ss, isi_tt, isi_is, isi_si, Bool.not_true, Bool.not_false]
  refine ⟨cs, p, g, rfl, ⟨p1, p2⟩, hl, hg, fun L R S nf h1 h2 h3 => ?_⟩
  try simp only [dSeq, dIfS, dTest, dOp, dVar, dC, dCB, daCons, daNil, dSet, dRet, dNext, dDrop, dAsg, dPar, dAug, dAddI, dBreak, dCont, dRetN, slot, dLen, dCmpI, dSub, dAdd, dMul, dDiv, dMod, dPow, dNeg, dUn, dIx, dInt1, dAbs, dChain, dAnd, dOr, dNot, dAndV, dOrV, dNotV, dTru, dTruB, dIf, dTup, dLst, mkL, dSlice, dSl, doNone, doSome, dSum, dAll, dAny, dList, dTuple, dMax, dMin, eq_ii, ne_ii, eq_ss, ne_ss, eq_bb, ne_bb, eq_nn, ne_nn, dIsN, dNotN, dIsB, dNotB, gN, gT, gsNil, gsCons, gSet, dBM, dAppend, dClear, dFld, dFldS, dProp, dCall, dMeth, dMake, dCallO, dFor, dLc, diR1, diR2, diL, diT, diRv, diS, diE, dFmt, dFStr, dJs, dCallN, dFrzE, frz_l, in_ss, notin_ss, drR1, drR2, dListR, dRaise, dRaise0, dTryAs, dTry, dXf, dAddO, dInO, isL, insOf, Option.some.injEq, List.cons.injEq, D.int.injEq, D.bl.injEq, D.str.injEq, D.lst.injEq, D.tup.injEq, D.ref.injEq, MO.lst.injEq, MO.ins.injEq, mset_mset, and_true, true_and, and_self, and_assoc, exists_eq_left', exists_eq_left, exists_and_left, exists_and_right, exists_eq', List.set_cons_zero, List.set_cons_succ, decide_eq_true_eq, sqOf, lsOf, List.length_cons, List.length_nil, sizeLine_eq, List.append_nil, List.cons_append, List.nil_append, if_true, if_false, Bool.false_eq_true, reduceCtorEq, reduceIte, Nat.reduceAdd, Nat.reduceLeDiff, mset_same, Option.bind_some, List.length_map, Prod.mk.injEq, at0, at1, at2, at3, ix30, ix31, ix32, ix20, ix21, ix10, isi_ii, isi_ib, isi_ll, isi_bb, isi_ss, isi_tt, isi_is, isi_si, Bool.not_true, Bool.not_false, T.cl_Row, T.n_Row_cells, T.n_Row_period, T.n_Row_gain, T.n_Row_start, rowD, lk_cells, lk_period, lk_gain, lk_start, ha, put1, put2, put3, put_row]
  exact ⟨by omega, q L R S nf h1 h2 h3⟩
theorem pure_Row_eq {K : Fr0} {mg : Str → Option Value} (T : Txt K mg) (ds : List D) (m : M) (Q : D → M → Prop) (E : XD → M → Prop) (h : sp_Row_eq K ds m Q E) : t_Row_eq K (fun x _ m => E x m) { nx := fun _ m => Q .non m, rt := Q } (startD nm_Row_eq ds) m := by
  obtain ⟨v, v', L, L', R, R', S, S', rfl, q⟩ := h
  show t_Row_eq K _ _ [some (rowD K v L R S), some (rowD K v' L' R' S')] m
  unfold t_Row_eq
  try simp only [dSeq, dIfS, dTest, dOp, dVar, dC, dCB, daCons, daNil, dSet, dRet, dNext, dDrop, dAsg, dPar, dAug, dAddI, dBreak, dCont, dRetN, slot, dLen, dCmpI, dSub, dAdd, dMul, dDiv, dMod, dPow, dNeg, dUn, dIx, dInt1, dAbs, dChain, dAnd, dOr, dNot, dAndV, dOrV, dNotV, dTru, dTruB, dIf, dTup, dLst, mkL, dSlice, dSl, doNone, doSome, dSum, dAll, dAny, dList, dTuple, dMax, dMin, eq_ii, ne_ii, eq_ss, ne_ss, eq_bb, ne_bb, eq_nn, ne_nn, dIsN, dNotN, dIsB, dNotB, gN, gT, gsNil, gsCons, gSet, dBM, dAppend, dClear, dFld, dFldS, dProp, dCall, dMeth, dMake, dCallO, dFor, dLc, diR1, diR2, diL, diT, diRv, diS, diE, dFmt, dFStr, dJs, dCallN, dFrzE, frz_l, in_ss, notin_ss, drR1, drR2, dListR, dRaise, dRaise0, dTryAs, dTry, dXf, dAddO, dInO, isL, insOf, Option.some.injEq, List.cons.injEq, D.int.injEq, D.bl.injEq, D.str.injEq, D.lst.injEq, D.tup.injEq, D.ref.injEq, MO.lst.injEq, MO.ins.injEq, mset_mset, and_true, true_and, and_self, and_assoc, exists_eq_left', exists_eq_left, exists_and_left, exists_and_right, exists_eq', List.set_cons_zero, List.set_cons_succ, decide_eq_true_eq, sqOf, lsOf, List.length_cons, List.length_nil, sizeLine_eq, List.append_nil, List.cons_append, List.nil_append, if_true, if_false, Bool.false_eq_true, reduceCtorEq, reduceIte, Nat.reduceAdd, Nat.reduceLeDiff, mset_same, Option.bind_some, List.length_map, Prod.mk.injEq, at0, at1, at2, at3, ix30, ix31, ix32, ix20, ix21, ix10, isi_ii, isi_ib, isi_ll, isi_bb, isi_ss, isi_tt, isi_is, isi_si, Bool.not_true, Bool.not_false, T.cl_Row, T.n_Row_cells, T.n_Row_period, T.n_Row_gain, T.n_Row_start, rowD, lk_cells, lk_period, lk_gain, lk_start, isi_own T.ci_Row T.kit_Row]
  refine dEq_ints rfl rfl ?_
  try simp only [dIfS, dTest, dOp, dVar, dC, dCB, daCons, daNil, dSet, dRet, dNext, dDrop, dAsg, dPar, dAug, dAddI, dBreak, dCont, dRetN, slot, dLen, dCmpI, dSub, dAdd, dMul, dDiv, dMod, dPow, dNeg, dUn, dIx, dInt1, dAbs, dChain, dAnd, dOr, dNot, dAndV, dOrV, dNotV, dTru, dTruB, dIf, dTup, dLst, mkL, dSlice, dSl, doNone, doSome, dSum, dAll, dAny, dList, dTuple, dMax, dMin, eq_ii, ne_ii, eq_ss, ne_ss, eq_bb, ne_bb, eq_nn, ne_nn, dIsN, dNotN, dIsB, dNotB, gN, gT, gsNil, gsCons, gSet, dBM, dAppend, dClear, dFld, dFldS, dProp, dCall, dMeth, dMake, dCallO, dFor, dLc, diR1, diR2, diL, diT, diRv, diS, diE, dFmt, dFStr, dJs, dCallN, dFrzE, frz_l, in_ss, notin_ss, drR1, drR2, dListR, dRaise, dRaise0, dTryAs, dTry, dXf, dAddO, dInO, isL, insOf, Option.some.injEq, List.cons.injEq, D.int.injEq, D.bl.injEq, D.str.injEq, D.lst.injEq, D.tup.injEq, D.ref.injEq, MO.lst.injEq, MO.ins.injEq, mset_mset, and_true, true_and, and_self, and_assoc, exists_eq_left', exists_eq_left, exists_and_left, exists_and_right, exists_eq', List.set_cons_zero, List.set_cons_succ, decide_eq_true_eq, sqOf, lsOf, List.length_cons, List.length_nil, sizeLine_eq, List.append_nil, List.cons_append, List.nil_append, if_true, if_false, Bool.false_eq_true, reduceCtorEq, reduceIte, Nat.reduceAdd, Nat.reduceLeDiff, mset_same, Option.bind_some, List.length_map, Prod.mk.injEq, at0, at1, at2, at3, ix30, ix31, ix32, ix20, ix21, ix10, isi_ii, isi_ib, isi_ll, isi_bb, isi_ss, isi_tt, isi_is, isi_si, Bool.not_true, Bool.not_false]
  by_cases h1 : tab v (S + L) = tab v' (S' + L')
  · by_cases h2 : (L : Int) = L'
    · rw [if_pos h1, if_pos h2]
      simpa [h1, h2] using q
    · rw [if_pos h1, if_neg h2]
      simpa [h1, h2] using q
  · rw [if_neg h1]
    simpa [h1] using q
theorem init_row {K : Fr0} {cs : List Int} {p g : Int} {m : M} {x : Addr} {E : XD → M → Prop} {Q : D → M → Prop} (p1 : 1 ≤ p) (p2 : p ≤ cs.length) (hl : cs.length ≤ 100000) (hg : Sz g) (h : ∀ (L : Nat) (R : Int) (S : Nat), NF (val cs p.toNat g) L R S → (S : Int) ≤ cs.length - p → (L : Int) ≤ p → R.natAbs ≤ g.natAbs → Q .non (mset m x (.ins (ga K "Row") (rowF (val cs p.toNat g) L R S)))) :
    sp_Row_init K [.ref x, il cs, .int p, .int g] (mset m x (.ins (ga K "Row") [])) Q E :=
  ⟨x, cs, p, g, rfl, mset_same, ⟨p1, p2⟩, hl, hg, fun L R S nf h1 h2 h3 => by rw [mset_mset]; exact h L R S nf h1 h2 h3⟩
theorem eq_rows {K : Fr0} {v : Nat → Int} {L S : Nat} {R : Int} {m : M} {E : XD → M → Prop} {Q : D → M → Prop} (h : Q (.bl true) m) : sp_Row_eq K [.ins (ga K "Row") (rowF v L R S), .ins (ga K "Row") (rowF v L R S)] m Q E := ⟨v, v, L, L, R, R, S, S, rfl, by simpa using h⟩
theorem eqO_same {K : Fr0} {v : Nat → Int} {L S : Nat} {R : Int} {m : M} {Q : D → M → Prop} (h : Q (.bl true) m) : dEqO (ga K "Row") (sp_Row_eq K) (.ins (ga K "Row") (rowF v L R S)) (.ins (ga K "Row") (rowF v L R S)) m Q := ⟨_, _, rfl, rfl, eq_rows ⟨⟨_, rfl⟩, h⟩⟩
theorem none_Row_init {K : Fr0} : ∀ ds m Q E, sp_Row_init K ds m Q E → sp_Row_init K ds m (fun d m' => d = .non ∧ Q d m') E := by
  rintro ds m Q E ⟨a, cs, p, g, rfl, ha, hp, hl, hg, q⟩
  exact ⟨a, cs, p, g, rfl, ha, hp, hl, hg, fun L R S nf h1 h2 h3 => ⟨rfl, q L R S nf h1 h2 h3⟩⟩
theorem pure_Row_head {K : Fr0} {mg : Str → Option Value} (T : Txt K mg) (ds : List D) (m : M) (Q : D → M → Prop) (E : XD → M → Prop) (h : sp_Row_head K ds m Q E) : t_Row_head K (fun x _ m => E x m) { nx := fun _ m => Q .non m, rt := Q } (startD nm_Row_head ds) m := by
  obtain ⟨x, v, L, R, S, rfl, rfl, q⟩ := h
  show t_Row_head K _ _ [some (rowD K v L R S)] m
  unfold t_Row_head
  try simp only [dSeq, dIfS, dTest, dOp, dVar, dC, dCB, daCons, daNil, dSet, dRet, dNext, dDrop, dAsg, dPar, dAug, dAddI, dBreak, dCont, dRetN, slot, dLen, dCmpI, dSub, dAdd, dMul, dDiv, dMod, dPow, dNeg, dUn, dIx, dInt1, dAbs, dChain, dAnd, dOr, dNot, dAndV, dOrV, dNotV, dTru, dTruB, dIf, dTup, dLst, mkL, dSlice, dSl, doNone, doSome, dSum, dAll, dAny, dList, dTuple, dMax, dMin, eq_ii, ne_ii, eq_ss, ne_ss, eq_bb, ne_bb, eq_nn, ne_nn, dIsN, dNotN, dIsB, dNotB, gN, gT, gsNil, gsCons, gSet, dBM, dAppend, dClear, dFld, dFldS, dProp, dCall, dMeth, dMake, dCallO, dFor, dLc, diR1, diR2, diL, diT, diRv, diS, diE, dFmt, dFStr, dJs, dCallN, dFrzE, frz_l, in_ss, notin_ss, drR1, drR2, dListR, dRaise, dRaise0, dTryAs, dTry, dXf, dAddO, dInO, isL, insOf, Option.some.injEq, List.cons.injEq, D.int.injEq, D.bl.injEq, D.str.injEq, D.lst.injEq, D.tup.injEq, D.ref.injEq, MO.lst.injEq, MO.ins.injEq, mset_mset, and_true, true_and, and_self, and_assoc, exists_eq_left', exists_eq_left, exists_and_left, exists_and_right, exists_eq', List.set_cons_zero, List.set_cons_succ, decide_eq_true_eq, sqOf, lsOf, List.length_cons, List.length_nil, sizeLine_eq, List.append_nil, List.cons_append, List.nil_append, if_true, if_false, Bool.false_eq_true, reduceCtorEq, reduceIte, Nat.reduceAdd, Nat.reduceLeDiff, mset_same, Option.bind_some, List.length_map, Prod.mk.injEq, at0, at1, at2, at3, ix30, ix31, ix32, ix20, ix21, ix10, isi_ii, isi_ib, isi_ll, isi_bb, isi_ss, isi_tt, isi_is, isi_si, Bool.not_true, Bool.not_false, T.cl_Row, T.n_Row_cells, T.n_Row_period, T.n_Row_gain, T.n_Row_start, rowD, lk_cells, lk_period, lk_gain, lk_start]
  exact q
theorem head_k {K : Fr0} {v : Nat → Int} {L S : Nat} {R : Int} {m : M} {E : XD → M → Prop} {Q : D → M → Prop} (h : Q (il (tab v (S + L))) m) : sp_Row_head K [.ins (ga K "Row") (rowF v L R S)] m Q E := ⟨_, v, L, R, S, rfl, rfl, h⟩
theorem pure_law_cell {K : Fr0} {mg : Str → Option Value} (T : Txt K mg) (ds : List D) (m : M) (Q : D → M → Prop) (E : XD → M → Prop) (h : sp_law_cell K ds m Q E) : t_law_cell K (fun x _ m => E x m) { nx := fun _ m => Q .non m, rt := Q } (startD nm_law_cell ds) m := by
  obtain ⟨ns, i, rfl, h0, q⟩ := h
  show t_law_cell K _ _ [some (.rdl (ns.map D.int)), some (.int i)] m
  unfold t_law_cell
  try simp only [dSeq, dIfS, dTest, dOp, dVar, dC, dCB, daCons, daNil, dSet, dRet, dNext, dDrop, dAsg, dPar, dAug, dAddI, dBreak, dCont, dRetN, slot, dLen, dCmpI, dSub, dAdd, dMul, dDiv, dMod, dPow, dNeg, dUn, dIx, dInt1, dAbs, dChain, dAnd, dOr, dNot, dAndV, dOrV, dNotV, dTru, dTruB, dIf, dTup, dLst, mkL, dSlice, dSl, doNone, doSome, dSum, dAll, dAny, dList, dTuple, dMax, dMin, eq_ii, ne_ii, eq_ss, ne_ss, eq_bb, ne_bb, eq_nn, ne_nn, dIsN, dNotN, dIsB, dNotB, gN, gT, gsNil, gsCons, gSet, dBM, dAppend, dClear, dFld, dFldS, dProp, dCall, dMeth, dMake, dCallO, dFor, dLc, diR1, diR2, diL, diT, diRv, diS, diE, dFmt, dFStr, dJs, dCallN, dFrzE, frz_l, in_ss, notin_ss, drR1, drR2, dListR, dRaise, dRaise0, dTryAs, dTry, dXf, dAddO, dInO, isL, insOf, Option.some.injEq, List.cons.injEq, D.int.injEq, D.bl.injEq, D.str.injEq, D.lst.injEq, D.tup.injEq, D.ref.injEq, MO.lst.injEq, MO.ins.injEq, mset_mset, and_true, true_and, and_self, and_assoc, exists_eq_left', exists_eq_left, exists_and_left, exists_and_right, exists_eq', List.set_cons_zero, List.set_cons_succ, decide_eq_true_eq, sqOf, lsOf, List.length_cons, List.length_nil, sizeLine_eq, List.append_nil, List.cons_append, List.nil_append, if_true, if_false, Bool.false_eq_true, reduceCtorEq, reduceIte, Nat.reduceAdd, Nat.reduceLeDiff, mset_same, Option.bind_some, List.length_map, Prod.mk.injEq, at0, at1, at2, at3, ix30, ix31, ix32, ix20, ix21, ix10, isi_ii, isi_ib, isi_ll, isi_bb, isi_ss, isi_tt, isi_is, isi_si, Bool.not_true, Bool.not_false]
  unfold cellAt at q
  by_cases hi : i < ns.length
  · rw [if_pos hi, atI_ints h0 hi]
    rw [if_pos hi] at q
    exact ⟨_, rfl, q⟩
  · rw [if_neg hi]
    rw [if_neg hi] at q
    exact q
theorem pure_law_source {K : Fr0} {mg : Str → Option Value} (T : Txt K mg) (ds : List D) (m : M) (Q : D → M → Prop) (E : XD → M → Prop) (h : sp_law_source K ds m Q E) : t_law_source K (fun x _ m => E x m) { nx := fun _ m => Q .non m, rt := Q } (startD nm_law_source ds) m := by
  obtain ⟨c, rfl, q⟩ := h
  show t_law_source K _ _ [some (.int c)] m
  unfold t_law_source
  try simp only [dSeq, dIfS, dTest, dOp, dVar, dC, dCB, daCons, daNil, dSet, dRet, dNext, dDrop, dAsg, dPar, dAug, dAddI, dBreak, dCont, dRetN, slot, dLen, dCmpI, dSub, dAdd, dMul, dDiv, dMod, dPow, dNeg, dUn, dIx, dInt1, dAbs, dChain, dAnd, dOr, dNot, dAndV, dOrV, dNotV, dTru, dTruB, dIf, dTup, dLst, mkL, dSlice, dSl, doNone, doSome, dSum, dAll, dAny, dList, dTuple, dMax, dMin, eq_ii, ne_ii, eq_ss, ne_ss, eq_bb, ne_bb, eq_nn, ne_nn, dIsN, dNotN, dIsB, dNotB, gN, gT, gsNil, gsCons, gSet, dBM, dAppend, dClear, dFld, dFldS, dProp, dCall, dMeth, dMake, dCallO, dFor, dLc, diR1, diR2, diL, diT, diRv, diS, diE, dFmt, dFStr, dJs, dCallN, dFrzE, frz_l, in_ss, notin_ss, drR1, drR2, dListR, dRaise, dRaise0, dTryAs, dTry, dXf, dAddO, dInO, isL, insOf, Option.some.injEq, List.cons.injEq, D.int.injEq, D.bl.injEq, D.str.injEq, D.lst.injEq, D.tup.injEq, D.ref.injEq, MO.lst.injEq, MO.ins.injEq, mset_mset, and_true, true_and, and_self, and_assoc, exists_eq_left', exists_eq_left, exists_and_left, exists_and_right, exists_eq', List.set_cons_zero, List.set_cons_succ, decide_eq_true_eq, sqOf, lsOf, List.length_cons, List.length_nil, sizeLine_eq, List.append_nil, List.cons_append, List.nil_append, if_true, if_false, Bool.false_eq_true, reduceCtorEq, reduceIte, Nat.reduceAdd, Nat.reduceLeDiff, mset_same, Option.bind_some, List.length_map, Prod.mk.injEq, at0, at1, at2, at3, ix30, ix31, ix32, ix20, ix21, ix10, isi_ii, isi_ib, isi_ll, isi_bb, isi_ss, isi_tt, isi_is, isi_si, Bool.not_true, Bool.not_false]
  exact q
theorem pure_law_draw {K : Fr0} {mg : Str → Option Value} (T : Txt K mg) (ds : List D) (m : M) (Q : D → M → Prop) (E : XD → M → Prop) (h : sp_law_draw K ds m Q E) : t_law_draw K (fun x _ m => E x m) { nx := fun _ m => Q .non m, rt := Q } (startD nm_law_draw ds) m := by
  obtain ⟨a, lim, c, v, k, rfl, ha, ⟨l1, l2⟩, ⟨k0, k1⟩, q⟩ := h
  show t_law_draw K _ _ [some (.ref a), some (.int lim), none, none, none] m
  unfold t_law_draw
  try simp only [dSeq, dIfS, dTest, dOp, dVar, dC, dCB, daCons, daNil, dSet, dRet, dNext, dDrop, dAsg, dPar, dAug, dAddI, dBreak, dCont, dRetN, slot, dLen, dCmpI, dSub, dAdd, dMul, dDiv, dMod, dPow, dNeg, dUn, dIx, dInt1, dAbs, dChain, dAnd, dOr, dNot, dAndV, dOrV, dNotV, dTru, dTruB, dIf, dTup, dLst, mkL, dSlice, dSl, doNone, doSome, dSum, dAll, dAny, dList, dTuple, dMax, dMin, eq_ii, ne_ii, eq_ss, ne_ss, eq_bb, ne_bb, eq_nn, ne_nn, dIsN, dNotN, dIsB, dNotB, gN, gT, gsNil, gsCons, gSet, dBM, dAppend, dClear, dFld, dFldS, dProp, dCall, dMeth, dMake, dCallO, dFor, dLc, diR1, diR2, diL, diT, diRv, diS, diE, dFmt, dFStr, dJs, dCallN, dFrzE, frz_l, in_ss, notin_ss, drR1, drR2, dListR, dRaise, dRaise0, dTryAs, dTry, dXf, dAddO, dInO, isL, insOf, Option.some.injEq, List.cons.injEq, D.int.injEq, D.bl.injEq, D.str.injEq, D.lst.injEq, D.tup.injEq, D.ref.injEq, MO.lst.injEq, MO.ins.injEq, mset_mset, and_true, true_and, and_self, and_assoc, exists_eq_left', exists_eq_left, exists_and_left, exists_and_right, exists_eq', List.set_cons_zero, List.set_cons_succ, decide_eq_true_eq, sqOf, lsOf, List.length_cons, List.length_nil, sizeLine_eq, List.append_nil, List.cons_append, List.nil_append, if_true, if_false, Bool.false_eq_true, reduceCtorEq, reduceIte, Nat.reduceAdd, Nat.reduceLeDiff, mset_same, Option.bind_some, List.length_map, Prod.mk.injEq, at0, at1, at2, at3, ix30, ix31, ix32, ix20, ix21, ix10, isi_ii, isi_ib, isi_ll, isi_bb, isi_ss, isi_tt, isi_is, isi_si, Bool.not_true, Bool.not_false, ha, pool]
  refine ⟨⟨by omega, by omega, by decide⟩, ?_⟩
  by_cases hc : (10 : Int) ^ Int.toNat 18 ≤ c
  · rw [if_pos hc]
    exact ⟨by omega, wide_div (by omega) l2 (by decide) (by decide), q _ _ (Int.emod_nonneg _ (by omega)) (Int.emod_lt_of_pos _ (by omega))⟩
  · rw [if_neg hc]
    have c0 : 0 ≤ c % 2147483179 := Int.emod_nonneg _ (by omega)
    have c1 : c % 2147483179 < 2147483179 := Int.emod_lt_of_pos _ (by omega)
    generalize c % 2147483179 = s at *
    have z0 : 0 ≤ (s * 7919 + (k + 1) * 104561 + 12011) ^ Int.toNat 5 % 2147483647 := Int.emod_nonneg _ (by omega)
    have z1 : (s * 7919 + (k + 1) * 104561 + 12011) ^ Int.toNat 5 % 2147483647 < 2147483647 := Int.emod_lt_of_pos _ (by omega)
    generalize (s * 7919 + (k + 1) * 104561 + 12011) ^ Int.toNat 5 % 2147483647 = z at *
    have y0 : 0 ≤ (k + 1) * (k + 1) := Int.mul_nonneg (by omega) (by omega)
    have y1 : (k + 1) * (k + 1) ≤ 100001 * 100001 := Int.mul_le_mul (by omega) (by omega) (by omega) (by omega)
    generalize (k + 1) * (k + 1) = y at *
    refine ⟨by omega, mul_small (by omega), mul_small (by omega), ⟨by omega, by omega, by omega⟩, by omega, mul_small (by omega), mul_small (by omega), ⟨by omega, by omega, by omega⟩, by omega, div_ok (by omega) (by omega), by omega, ?_⟩
    exact q _ _ (Int.emod_nonneg _ (by omega)) (Int.emod_lt_of_pos _ (by omega))
theorem draw_k {K : Fr0} {a : Addr} {lim c v k : Int} {m : M} {Q : D → M → Prop} {E : XD → M → Prop} (l1 : 1 ≤ lim) (l2 : lim.natAbs < 2 ^ 200) (k0 : 0 ≤ k) (k1 : k ≤ 100000) (h : ∀ r v', 0 ≤ r → r < lim → Q (.int r) (mset m a (pool c v' (k + 1)))) (ha : m a = some (pool c v k)) : sp_law_draw K [.ref a, .int lim] m Q E := ⟨a, lim, c, v, k, rfl, ha, ⟨l1, l2⟩, ⟨k0, k1⟩, h⟩
theorem pure_Row_call {K : Fr0} {mg : Str → Option Value} (T : Txt K mg) (ds : List D) (m : M) (Q : D → M → Prop) (E : XD → M → Prop) (h : sp_Row_call K ds m Q E) : t_Row_call K (fun x _ m => E x m) { nx := fun _ m => Q .non m, rt := Q } (startD nm_Row_call ds) m := by
  obtain ⟨v, L, R, S, i, rfl, ⟨L1, hp, hl, hR⟩, ⟨i0, hi⟩, q⟩ := h
  show t_Row_call K _ _ [some (rowD K v L R S), some (.int i)] m
  unfold t_Row_call
  try simp only [dSeq]
  try simp only [dIfS, dTest, dOp, dVar, dC, dCB, daCons, daNil, dSet, dRet, dNext, dDrop, dAsg, dPar, dAug, dAddI, dBreak, dCont, dRetN, slot, dLen, dCmpI, dSub, dAdd, dMul, dDiv, dMod, dPow, dNeg, dUn, dIx, dInt1, dAbs, dChain, dAnd, dOr, dNot, dAndV, dOrV, dNotV, dTru, dTruB, dIf, dTup, dLst, mkL, dSlice, dSl, doNone, doSome, dSum, dAll, dAny, dList, dTuple, dMax, dMin, eq_ii, ne_ii, eq_ss, ne_ss, eq_bb, ne_bb, eq_nn, ne_nn, dIsN, dNotN, dIsB, dNotB, gN, gT, gsNil, gsCons, gSet, dBM, dAppend, dClear, dFld, dFldS, dProp, dCall, dMeth, dMake, dCallO, dFor, dLc, diR1, diR2, diL, diT, diRv, diS, diE, dFmt, dFStr, dJs, dCallN, dFrzE, frz_l, in_ss, notin_ss, drR1, drR2, dListR, dRaise, dRaise0, dTryAs, dTry, dXf, dAddO, dInO, isL, insOf, Option.some.injEq, List.cons.injEq, D.int.injEq, D.bl.injEq, D.str.injEq, D.lst.injEq, D.tup.injEq, D.ref.injEq, MO.lst.injEq, MO.ins.injEq, mset_mset, and_true, true_and, and_self, and_assoc, exists_eq_left', exists_eq_left, exists_and_left, exists_and_right, exists_eq', List.set_cons_zero, List.set_cons_succ, decide_eq_true_eq, sqOf, lsOf, List.length_cons, List.length_nil, sizeLine_eq, List.append_nil, List.cons_append, List.nil_append, if_true, if_false, Bool.false_eq_true, reduceCtorEq, reduceIte, Nat.reduceAdd, Nat.reduceLeDiff, mset_same, Option.bind_some, List.length_map, Prod.mk.injEq, at0, at1, at2, at3, ix30, ix31, ix32, ix20, ix21, ix10, isi_ii, isi_ib, isi_ll, isi_bb, isi_ss, isi_tt, isi_is, isi_si, Bool.not_true, Bool.not_false]
  rw [if_neg (by omega)]
  try simp only [dIfS, dTest, dOp, dVar, dC, dCB, daCons, daNil, dSet, dRet, dNext, dDrop, dAsg, dPar, dAug, dAddI, dBreak, dCont, dRetN, slot, dLen, dCmpI, dSub, dAdd, dMul, dDiv, dMod, dPow, dNeg, dUn, dIx, dInt1, dAbs, dChain, dAnd, dOr, dNot, dAndV, dOrV, dNotV, dTru, dTruB, dIf, dTup, dLst, mkL, dSlice, dSl, doNone, doSome, dSum, dAll, dAny, dList, dTuple, dMax, dMin, eq_ii, ne_ii, eq_ss, ne_ss, eq_bb, ne_bb, eq_nn, ne_nn, dIsN, dNotN, dIsB, dNotB, gN, gT, gsNil, gsCons, gSet, dBM, dAppend, dClear, dFld, dFldS, dProp, dCall, dMeth, dMake, dCallO, dFor, dLc, diR1, diR2, diL, diT, diRv, diS, diE, dFmt, dFStr, dJs, dCallN, dFrzE, frz_l, in_ss, notin_ss, drR1, drR2, dListR, dRaise, dRaise0, dTryAs, dTry, dXf, dAddO, dInO, isL, insOf, Option.some.injEq, List.cons.injEq, D.int.injEq, D.bl.injEq, D.str.injEq, D.lst.injEq, D.tup.injEq, D.ref.injEq, MO.lst.injEq, MO.ins.injEq, mset_mset, and_true, true_and, and_self, and_assoc, exists_eq_left', exists_eq_left, exists_and_left, exists_and_right, exists_eq', List.set_cons_zero, List.set_cons_succ, decide_eq_true_eq, sqOf, lsOf, List.length_cons, List.length_nil, sizeLine_eq, List.append_nil, List.cons_append, List.nil_append, if_true, if_false, Bool.false_eq_true, reduceCtorEq, reduceIte, Nat.reduceAdd, Nat.reduceLeDiff, mset_same, Option.bind_some, List.length_map, Prod.mk.injEq, at0, at1, at2, at3, ix30, ix31, ix32, ix20, ix21, ix10, isi_ii, isi_ib, isi_ll, isi_bb, isi_ss, isi_tt, isi_is, isi_si, Bool.not_true, Bool.not_false, T.cl_Row, T.n_Row_cells, T.n_Row_period, T.n_Row_gain, T.n_Row_start, rowD, lk_cells, lk_period, lk_gain, lk_start]
  refine ⟨tab v (S + L), L, R, i, rfl, ⟨by omega, by rw [tab_len]; omega⟩, by rw [tab_len]; omega, hR, ⟨i0, hi⟩, ?_⟩
  rw [Int.toNat_natCast, val_tab L1 hp]
  exact q
theorem call_k {K : Fr0} {v : Nat → Int} {L : Nat} {R : Int} {S : Nat} {i : Int} {m : M} {Q : D → M → Prop} {E : XD → M → Prop} (r : Rk v L R S) (h0 : 0 ≤ i) (h1 : Sz i) (q : Q (.int (v i.toNat)) m) : sp_Row_call K [.ins (ga K "Row") (rowF v L R S), .int i] m Q E := ⟨v, L, R, S, i, rfl, r, ⟨h0, h1⟩, q⟩
theorem sz_small {i : Int} (h : i.natAbs ≤ 1000000) : Sz i := Nat.lt_of_le_of_lt h sz6
theorem pure_check_speed {K : Fr0} {mg : Str → Option Value} (T : Txt K mg) (ds : List D) (m : M) (Q : D → M → Prop) (E : XD → M → Prop) (h : sp_check_speed K ds m Q E) : t_check_speed K (fun x _ m => E x m) { nx := fun _ m => Q .non m, rt := Q } (startD nm_check_speed ds) m := by
  obtain ⟨s, rfl, q, qe⟩ := h
  show t_check_speed K _ _ [some (.int s)] m
  unfold t_check_speed
  try simp only [dIfS, dTest, dOp, dVar, dC, dCB, daCons, daNil, dSet, dRet, dNext, dDrop, dAsg, dPar, dAug, dAddI, dBreak, dCont, dRetN, slot, dLen, dCmpI, dSub, dAdd, dMul, dDiv, dMod, dPow, dNeg, dUn, dIx, dInt1, dAbs, dChain, dAnd, dOr, dNot, dAndV, dOrV, dNotV, dTru, dTruB, dIf, dTup, dLst, mkL, dSlice, dSl, doNone, doSome, dSum, dAll, dAny, dList, dTuple, dMax, dMin, eq_ii, ne_ii, eq_ss, ne_ss, eq_bb, ne_bb, eq_nn, ne_nn, dIsN, dNotN, dIsB, dNotB, gN, gT, gsNil, gsCons, gSet, dBM, dAppend, dClear, dFld, dFldS, dProp, dCall, dMeth, dMake, dCallO, dFor, dLc, diR1, diR2, diL, diT, diRv, diS, diE, dFmt, dFStr, dJs, dCallN, dFrzE, frz_l, in_ss, notin_ss, drR1, drR2, dListR, dRaise, dRaise0, dTryAs, dTry, dXf, dAddO, dInO, isL, insOf, Option.some.injEq, List.cons.injEq, D.int.injEq, D.bl.injEq, D.str.injEq, D.lst.injEq, D.tup.injEq, D.ref.injEq, MO.lst.injEq, MO.ins.injEq, mset_mset, and_true, true_and, and_self, and_assoc, exists_eq_left', exists_eq_left, exists_and_left, exists_and_right, exists_eq', List.set_cons_zero, List.set_cons_succ, decide_eq_true_eq, sqOf, lsOf, List.length_cons, List.length_nil, sizeLine_eq, List.append_nil, List.cons_append, List.nil_append, if_true, if_false, Bool.false_eq_true, reduceCtorEq, reduceIte, Nat.reduceAdd, Nat.reduceLeDiff, mset_same, Option.bind_some, List.length_map, Prod.mk.injEq, at0, at1, at2, at3, ix30, ix31, ix32, ix20, ix21, ix10, isi_ii, isi_ib, isi_ll, isi_bb, isi_ss, isi_tt, isi_is, isi_si, Bool.not_true, Bool.not_false]
  by_cases h1 : 1 ≤ s
  · rw [if_pos h1]
    by_cases h2 : s ≤ 99
    · rw [if_neg (by simp; omega)]
      exact q ⟨h1, h2⟩
    · rw [if_pos (by simp; omega)]
      exact qe (by omega)
  · rw [if_neg h1]
    exact qe (by omega)
theorem s0_eq : (Str.ofString "0" : Str) = ⟨#[48]⟩ := by decide +kernel
theorem s1_eq : (Str.ofString "1" : Str) = ⟨#[49]⟩ := by decide +kernel
theorem sgn_inj {a b : Nat} : ((⟨#[a]⟩ : Str) = ⟨#[b]⟩) ↔ a = b := ⟨fun h => by injection h with h; simpa using h, fun h => by rw [h]⟩
theorem notin_strs {x : Str} {zs : List Str} {m : M} {d : D} {Q : D → M → Prop} (hd : sqOf m d = some (zs.map D.str)) (q : Q (.bl (!decide (x ∈ zs))) m) : dIn true (.str x) d m Q := by
  cases d with
  | str j => cases hd
  | _ => exact ⟨_, hd, rfl, flat_strs zs, by rw [inD_strs]; exact q⟩
theorem sgn01 (c : Nat) : decide ((⟨#[c]⟩ : Str) ∈ [(Str.ofString "0" : Str), Str.ofString "1"]) = (c == 48 || c == 49) := by
  rw [s0_eq, s1_eq]
  by_cases h0 : c = 48
  · subst h0; simp
  · by_cases h1 : c = 49
    · subst h1; simp
    · simp [sgn_inj, h0, h1]
theorem pure_check_calendar {K : Fr0} {mg : Str → Option Value} (T : Txt K mg) (ds : List D) (m : M) (Q : D → M → Prop) (E : XD → M → Prop) (h : sp_check_calendar K ds m Q E) : t_check_calendar K (fun x _ m => E x m) { nx := fun _ m => Q .non m, rt := Q } (startD nm_check_calendar ds) m := by
  obtain ⟨z, rfl, hz, q, qe⟩ := h
  show t_check_calendar K _ _ [some (.str z), none] m
  unfold t_check_calendar
  try simp only [dSeq]
  try simp only [dIfS, dTest, dOp, dVar, dC, dCB, daCons, daNil, dSet, dRet, dNext, dDrop, dAsg, dPar, dAug, dAddI, dBreak, dCont, dRetN, slot, dLen, dCmpI, dSub, dAdd, dMul, dDiv, dMod, dPow, dNeg, dUn, dIx, dInt1, dAbs, dChain, dAnd, dOr, dNot, dAndV, dOrV, dNotV, dTru, dTruB, dIf, dTup, dLst, mkL, dSlice, dSl, doNone, doSome, dSum, dAll, dAny, dList, dTuple, dMax, dMin, eq_ii, ne_ii, eq_ss, ne_ss, eq_bb, ne_bb, eq_nn, ne_nn, dIsN, dNotN, dIsB, dNotB, gN, gT, gsNil, gsCons, gSet, dBM, dAppend, dClear, dFld, dFldS, dProp, dCall, dMeth, dMake, dCallO, dFor, dLc, diR1, diR2, diL, diT, diRv, diS, diE, dFmt, dFStr, dJs, dCallN, dFrzE, frz_l, in_ss, notin_ss, drR1, drR2, dListR, dRaise, dRaise0, dTryAs, dTry, dXf, dAddO, dInO, isL, insOf, Option.some.injEq, List.cons.injEq, D.int.injEq, D.bl.injEq, D.str.injEq, D.lst.injEq, D.tup.injEq, D.ref.injEq, MO.lst.injEq, MO.ins.injEq, mset_mset, and_true, true_and, and_self, and_assoc, exists_eq_left', exists_eq_left, exists_and_left, exists_and_right, exists_eq', List.set_cons_zero, List.set_cons_succ, decide_eq_true_eq, sqOf, lsOf, List.length_cons, List.length_nil, sizeLine_eq, List.append_nil, List.cons_append, List.nil_append, if_true, if_false, Bool.false_eq_true, reduceCtorEq, reduceIte, Nat.reduceAdd, Nat.reduceLeDiff, mset_same, Option.bind_some, List.length_map, Prod.mk.injEq, at0, at1, at2, at3, ix30, ix31, ix32, ix20, ix21, ix10, isi_ii, isi_ib, isi_ll, isi_bb, isi_ss, isi_tt, isi_is, isi_si, Bool.not_true, Bool.not_false]
  refine ⟨by omega, ?_⟩
  by_cases h1 : ¬ 1 ≤ z.length
  · rw [if_neg (by omega)]
    exact qe (by unfold calB; rw [decide_eq_false (by omega)]; rfl)
  have h1 : 1 ≤ z.length := by omega
  rw [if_pos (by omega)]
  by_cases h2 : ¬ z.length ≤ 24
  · rw [if_pos (by simp; omega)]
    exact qe (by unfold calB; rw [decide_eq_false (by omega)]; rfl)
  have h2 : z.length ≤ 24 := by omega
  rw [if_neg (by simp; omega)]
  have e12 : decide (1 ≤ z.length ∧ z.length ≤ 24) = true := decide_eq_true ⟨h1, h2⟩
  cases h3 : inS z "1" with
  | false =>
    have h4 := h3
    unfold inS at h4
    rw [if_pos (by simpa using h4)]
    exact qe (by unfold calB; rw [e12, h3]; rfl)
  | true =>
    have h4 := h3
    unfold inS at h4
    rw [if_neg (by simpa using h4)]
    obtain ⟨P, hP⟩ : ∃ P : Nat → DSt → M → Prop, ∀ j r m', P j r m' ↔ (∀ i, i < j → ∀ c, z.cps.toList[i]? = some c → (c == 48 || c == 49) = true) ∧ m' = m ∧ ∃ o1, r = [some (.str z), o1] := ⟨_, fun _ _ _ => Iff.rfl⟩
    refine ⟨P, (hP _ _ _).mpr ⟨fun i h => absurd h (Nat.not_lt_zero _), rfl, _, rfl⟩, ?_, ?_⟩
    · intro j d r m' hd hp
      obtain ⟨hf, rfl, o1, rfl⟩ := (hP _ _ _).mp hp
      unfold chars at hd
      rw [List.getElem?_map] at hd
      cases e : z.cps.toList[j]? with
      | none => rw [e] at hd; cases hd
      | some c =>
        rw [e] at hd
        cases hd
        try simp only [dIfS, dTest, dOp, dVar, dC, dCB, daCons, daNil, dSet, dRet, dNext, dDrop, dAsg, dPar, dAug, dAddI, dBreak, dCont, dRetN, slot, dLen, dCmpI, dSub, dAdd, dMul, dDiv, dMod, dPow, dNeg, dUn, dIx, dInt1, dAbs, dChain, dAnd, dOr, dNot, dAndV, dOrV, dNotV, dTru, dTruB, dIf, dTup, dLst, mkL, dSlice, dSl, doNone, doSome, dSum, dAll, dAny, dList, dTuple, dMax, dMin, eq_ii, ne_ii, eq_ss, ne_ss, eq_bb, ne_bb, eq_nn, ne_nn, dIsN, dNotN, dIsB, dNotB, gN, gT, gsNil, gsCons, gSet, dBM, dAppend, dClear, dFld, dFldS, dProp, dCall, dMeth, dMake, dCallO, dFor, dLc, diR1, diR2, diL, diT, diRv, diS, diE, dFmt, dFStr, dJs, dCallN, dFrzE, frz_l, in_ss, notin_ss, drR1, drR2, dListR, dRaise, dRaise0, dTryAs, dTry, dXf, dAddO, dInO, isL, insOf, Option.some.injEq, List.cons.injEq, D.int.injEq, D.bl.injEq, D.str.injEq, D.lst.injEq, D.tup.injEq, D.ref.injEq, MO.lst.injEq, MO.ins.injEq, mset_mset, and_true, true_and, and_self, and_assoc, exists_eq_left', exists_eq_left, exists_and_left, exists_and_right, exists_eq', List.set_cons_zero, List.set_cons_succ, decide_eq_true_eq, sqOf, lsOf, List.length_cons, List.length_nil, sizeLine_eq, List.append_nil, List.cons_append, List.nil_append, if_true, if_false, Bool.false_eq_true, reduceCtorEq, reduceIte, Nat.reduceAdd, Nat.reduceLeDiff, mset_same, Option.bind_some, List.length_map, Prod.mk.injEq, at0, at1, at2, at3, ix30, ix31, ix32, ix20, ix21, ix10, isi_ii, isi_ib, isi_ll, isi_bb, isi_ss, isi_tt, isi_is, isi_si, Bool.not_true, Bool.not_false]
        refine notin_strs (zs := [Str.ofString "0", Str.ofString "1"]) rfl ?_
        rw [sgn01]
        cases hc : (c == 48 || c == 49) with
        | true =>
          try simp only [dIfS, dTest, dOp, dVar, dC, dCB, daCons, daNil, dSet, dRet, dNext, dDrop, dAsg, dPar, dAug, dAddI, dBreak, dCont, dRetN, slot, dLen, dCmpI, dSub, dAdd, dMul, dDiv, dMod, dPow, dNeg, dUn, dIx, dInt1, dAbs, dChain, dAnd, dOr, dNot, dAndV, dOrV, dNotV, dTru, dTruB, dIf, dTup, dLst, mkL, dSlice, dSl, doNone, doSome, dSum, dAll, dAny, dList, dTuple, dMax, dMin, eq_ii, ne_ii, eq_ss, ne_ss, eq_bb, ne_bb, eq_nn, ne_nn, dIsN, dNotN, dIsB, dNotB, gN, gT, gsNil, gsCons, gSet, dBM, dAppend, dClear, dFld, dFldS, dProp, dCall, dMeth, dMake, dCallO, dFor, dLc, diR1, diR2, diL, diT, diRv, diS, diE, dFmt, dFStr, dJs, dCallN, dFrzE, frz_l, in_ss, notin_ss, drR1, drR2, dListR, dRaise, dRaise0, dTryAs, dTry, dXf, dAddO, dInO, isL, insOf, Option.some.injEq, List.cons.injEq, D.int.injEq, D.bl.injEq, D.str.injEq, D.lst.injEq, D.tup.injEq, D.ref.injEq, MO.lst.injEq, MO.ins.injEq, mset_mset, and_true, true_and, and_self, and_assoc, exists_eq_left', exists_eq_left, exists_and_left, exists_and_right, exists_eq', List.set_cons_zero, List.set_cons_succ, decide_eq_true_eq, sqOf, lsOf, List.length_cons, List.length_nil, sizeLine_eq, List.append_nil, List.cons_append, List.nil_append, if_true, if_false, Bool.false_eq_true, reduceCtorEq, reduceIte, Nat.reduceAdd, Nat.reduceLeDiff, mset_same, Option.bind_some, List.length_map, Prod.mk.injEq, at0, at1, at2, at3, ix30, ix31, ix32, ix20, ix21, ix10, isi_ii, isi_ib, isi_ll, isi_bb, isi_ss, isi_tt, isi_is, isi_si, Bool.not_true, Bool.not_false]
          refine (hP _ _ _).mpr ⟨fun i hi c' hc' => ?_, rfl, _, rfl⟩
          by_cases ei : i = j
          · subst ei
            rw [e] at hc'
            cases hc'
            exact hc
          · exact hf i (by omega) c' hc'
        | false =>
          try simp only [dIfS, dTest, dOp, dVar, dC, dCB, daCons, daNil, dSet, dRet, dNext, dDrop, dAsg, dPar, dAug, dAddI, dBreak, dCont, dRetN, slot, dLen, dCmpI, dSub, dAdd, dMul, dDiv, dMod, dPow, dNeg, dUn, dIx, dInt1, dAbs, dChain, dAnd, dOr, dNot, dAndV, dOrV, dNotV, dTru, dTruB, dIf, dTup, dLst, mkL, dSlice, dSl, doNone, doSome, dSum, dAll, dAny, dList, dTuple, dMax, dMin, eq_ii, ne_ii, eq_ss, ne_ss, eq_bb, ne_bb, eq_nn, ne_nn, dIsN, dNotN, dIsB, dNotB, gN, gT, gsNil, gsCons, gSet, dBM, dAppend, dClear, dFld, dFldS, dProp, dCall, dMeth, dMake, dCallO, dFor, dLc, diR1, diR2, diL, diT, diRv, diS, diE, dFmt, dFStr, dJs, dCallN, dFrzE, frz_l, in_ss, notin_ss, drR1, drR2, dListR, dRaise, dRaise0, dTryAs, dTry, dXf, dAddO, dInO, isL, insOf, Option.some.injEq, List.cons.injEq, D.int.injEq, D.bl.injEq, D.str.injEq, D.lst.injEq, D.tup.injEq, D.ref.injEq, MO.lst.injEq, MO.ins.injEq, mset_mset, and_true, true_and, and_self, and_assoc, exists_eq_left', exists_eq_left, exists_and_left, exists_and_right, exists_eq', List.set_cons_zero, List.set_cons_succ, decide_eq_true_eq, sqOf, lsOf, List.length_cons, List.length_nil, sizeLine_eq, List.append_nil, List.cons_append, List.nil_append, if_true, if_false, Bool.false_eq_true, reduceCtorEq, reduceIte, Nat.reduceAdd, Nat.reduceLeDiff, mset_same, Option.bind_some, List.length_map, Prod.mk.injEq, at0, at1, at2, at3, ix30, ix31, ix32, ix20, ix21, ix10, isi_ii, isi_ib, isi_ll, isi_bb, isi_ss, isi_tt, isi_is, isi_si, Bool.not_true, Bool.not_false]
          refine qe ?_
          unfold calB
          rw [e12, h3]
          show z.cps.toList.all _ = false
          rw [List.all_eq_false]
          exact ⟨c, List.mem_of_getElem? e, by rw [hc]; exact Bool.false_ne_true⟩
    intro r m' hp
    obtain ⟨hf, rfl, o1, rfl⟩ := (hP _ _ _).mp hp
    refine q ?_
    unfold calB
    rw [e12, h3]
    show z.cps.toList.all _ = true
    rw [List.all_eq_true]
    intro c hc
    obtain ⟨i, hi⟩ := List.mem_iff_getElem?.mp hc
    have hl : i < z.cps.toList.length := (List.getElem?_eq_some_iff.mp hi).1
    exact hf i (by rw [chars_len]; simpa using hl) c hi
structure CalOk (z : Str) : Prop where
  n1 : 1 ≤ z.length
  n2 : z.length ≤ 24
  at_ : ∀ i, i < z.length → ∃ c, z.cps.toList[i]? = some c
theorem cal_ok {z : Str} (h : calB z = true) : CalOk z := by
  unfold calB at h
  simp only [Bool.and_eq_true, decide_eq_true_eq] at h
  refine ⟨h.1.1.1, h.1.1.2, fun i hi => ?_⟩
  have : i < z.cps.toList.length := by rw [Array.length_toList]; exact hi
  exact ⟨_, List.getElem?_eq_getElem this⟩
theorem atI_s {z : Str} {i : Int} (h0 : 0 ≤ i) (h1 : i < z.length) : ∃ c, atI z.cps.toList i = some c ∧ z.cps.toList[i.toNat]? = some c := by
  have hl : i.toNat < z.cps.toList.length := by rw [Array.length_toList]; show i.toNat < z.length; omega
  refine ⟨z.cps.toList[i.toNat], ?_, List.getElem?_eq_getElem hl⟩
  have e := atI_nat (xs := z.cps.toList) (List.getElem?_eq_getElem hl)
  rwa [Int.toNat_of_nonneg h0] at e
theorem on_dec {z : Str} {i c : Nat} (h : z.cps.toList[i]? = some c) : decide ((⟨#[c]⟩ : Str) = Str.ofString "1") = onB z i := by
  unfold onB
  rw [h, s1_eq]
  by_cases e : c = 49
  · subst e; simp
  · simp [sgn_inj, e]
theorem cnt_le (z : Str) : 0 ≤ cntS z ∧ cntS z ≤ z.length + 1 := by
  unfold cntS PySem.Txt.count
  have := PySem.StrLaws.occ_length_le z "1" 0 z.length (z.length + 1)
  omega
theorem pure_open_ticks {K : Fr0} {mg : Str → Option Value} (T : Txt K mg) (ds : List D) (m : M) (Q : D → M → Prop) (E : XD → M → Prop) (h : sp_open_ticks K ds m Q E) : t_open_ticks K (fun x _ m => E x m) { nx := fun _ m => Q .non m, rt := Q } (startD nm_open_ticks ds) m := by
  obtain ⟨z, b, t, rfl, hc, hb, ht, q⟩ := h
  obtain ⟨n1, n2, hat⟩ := cal_ok hc
  show t_open_ticks K _ _ [some (.str z), some (.int b), some (.int t), none, none, none, none, none] m
  unfold t_open_ticks
  try simp only [dSeq]
  try simp only [dIfS, dTest, dOp, dVar, dC, dCB, daCons, daNil, dSet, dRet, dNext, dDrop, dAsg, dPar, dAug, dAddI, dBreak, dCont, dRetN, slot, dLen, dCmpI, dSub, dAdd, dMul, dDiv, dMod, dPow, dNeg, dUn, dIx, dInt1, dAbs, dChain, dAnd, dOr, dNot, dAndV, dOrV, dNotV, dTru, dTruB, dIf, dTup, dLst, mkL, dSlice, dSl, doNone, doSome, dSum, dAll, dAny, dList, dTuple, dMax, dMin, eq_ii, ne_ii, eq_ss, ne_ss, eq_bb, ne_bb, eq_nn, ne_nn, dIsN, dNotN, dIsB, dNotB, gN, gT, gsNil, gsCons, gSet, dBM, dAppend, dClear, dFld, dFldS, dProp, dCall, dMeth, dMake, dCallO, dFor, dLc, diR1, diR2, diL, diT, diRv, diS, diE, dFmt, dFStr, dJs, dCallN, dFrzE, frz_l, in_ss, notin_ss, drR1, drR2, dListR, dRaise, dRaise0, dTryAs, dTry, dXf, dAddO, dInO, isL, insOf, Option.some.injEq, List.cons.injEq, D.int.injEq, D.bl.injEq, D.str.injEq, D.lst.injEq, D.tup.injEq, D.ref.injEq, MO.lst.injEq, MO.ins.injEq, mset_mset, and_true, true_and, and_self, and_assoc, exists_eq_left', exists_eq_left, exists_and_left, exists_and_right, exists_eq', List.set_cons_zero, List.set_cons_succ, decide_eq_true_eq, sqOf, lsOf, List.length_cons, List.length_nil, sizeLine_eq, List.append_nil, List.cons_append, List.nil_append, if_true, if_false, Bool.false_eq_true, reduceCtorEq, reduceIte, Nat.reduceAdd, Nat.reduceLeDiff, mset_same, Option.bind_some, List.length_map, Prod.mk.injEq, at0, at1, at2, at3, ix30, ix31, ix32, ix20, ix21, ix10, isi_ii, isi_ib, isi_ll, isi_bb, isi_ss, isi_tt, isi_is, isi_si, Bool.not_true, Bool.not_false]
  try simp only [dSeq]
  try simp only [dIfS, dTest, dOp, dVar, dC, dCB, daCons, daNil, dSet, dRet, dNext, dDrop, dAsg, dPar, dAug, dAddI, dBreak, dCont, dRetN, slot, dLen, dCmpI, dSub, dAdd, dMul, dDiv, dMod, dPow, dNeg, dUn, dIx, dInt1, dAbs, dChain, dAnd, dOr, dNot, dAndV, dOrV, dNotV, dTru, dTruB, dIf, dTup, dLst, mkL, dSlice, dSl, doNone, doSome, dSum, dAll, dAny, dList, dTuple, dMax, dMin, eq_ii, ne_ii, eq_ss, ne_ss, eq_bb, ne_bb, eq_nn, ne_nn, dIsN, dNotN, dIsB, dNotB, gN, gT, gsNil, gsCons, gSet, dBM, dAppend, dClear, dFld, dFldS, dProp, dCall, dMeth, dMake, dCallO, dFor, dLc, diR1, diR2, diL, diT, diRv, diS, diE, dFmt, dFStr, dJs, dCallN, dFrzE, frz_l, in_ss, notin_ss, drR1, drR2, dListR, dRaise, dRaise0, dTryAs, dTry, dXf, dAddO, dInO, isL, insOf, Option.some.injEq, List.cons.injEq, D.int.injEq, D.bl.injEq, D.str.injEq, D.lst.injEq, D.tup.injEq, D.ref.injEq, MO.lst.injEq, MO.ins.injEq, mset_mset, and_true, true_and, and_self, and_assoc, exists_eq_left', exists_eq_left, exists_and_left, exists_and_right, exists_eq', List.set_cons_zero, List.set_cons_succ, decide_eq_true_eq, sqOf, lsOf, List.length_cons, List.length_nil, sizeLine_eq, List.append_nil, List.cons_append, List.nil_append, if_true, if_false, Bool.false_eq_true, reduceCtorEq, reduceIte, Nat.reduceAdd, Nat.reduceLeDiff, mset_same, Option.bind_some, List.length_map, Prod.mk.injEq, at0, at1, at2, at3, ix30, ix31, ix32, ix20, ix21, ix10, isi_ii, isi_ib, isi_ll, isi_bb, isi_ss, isi_tt, isi_is, isi_si, Bool.not_true, Bool.not_false]
  refine ⟨by omega, _, _, rfl, divp_ok (by omega) (Nat.le_trans (PyProof.Rows.intBits_le (k := 200) (by rw [Int.natAbs_natCast]; exact ht)) (by omega)), ?_⟩
  have hm : t % z.length < z.length := Nat.mod_lt _ (by omega)
  have em : ((t : Int) % (z.length : Int)) = ((t % z.length : Nat) : Int) := by simp
  have ed : ((t : Int) / (z.length : Int)) = ((t / z.length : Nat) : Int) := by simp
  rw [em, ed]
  try simp only [dIfS, dTest, dOp, dVar, dC, dCB, daCons, daNil, dSet, dRet, dNext, dDrop, dAsg, dPar, dAug, dAddI, dBreak, dCont, dRetN, slot, dLen, dCmpI, dSub, dAdd, dMul, dDiv, dMod, dPow, dNeg, dUn, dIx, dInt1, dAbs, dChain, dAnd, dOr, dNot, dAndV, dOrV, dNotV, dTru, dTruB, dIf, dTup, dLst, mkL, dSlice, dSl, doNone, doSome, dSum, dAll, dAny, dList, dTuple, dMax, dMin, eq_ii, ne_ii, eq_ss, ne_ss, eq_bb, ne_bb, eq_nn, ne_nn, dIsN, dNotN, dIsB, dNotB, gN, gT, gsNil, gsCons, gSet, dBM, dAppend, dClear, dFld, dFldS, dProp, dCall, dMeth, dMake, dCallO, dFor, dLc, diR1, diR2, diL, diT, diRv, diS, diE, dFmt, dFStr, dJs, dCallN, dFrzE, frz_l, in_ss, notin_ss, drR1, drR2, dListR, dRaise, dRaise0, dTryAs, dTry, dXf, dAddO, dInO, isL, insOf, Option.some.injEq, List.cons.injEq, D.int.injEq, D.bl.injEq, D.str.injEq, D.lst.injEq, D.tup.injEq, D.ref.injEq, MO.lst.injEq, MO.ins.injEq, mset_mset, and_true, true_and, and_self, and_assoc, exists_eq_left', exists_eq_left, exists_and_left, exists_and_right, exists_eq', List.set_cons_zero, List.set_cons_succ, decide_eq_true_eq, sqOf, lsOf, List.length_cons, List.length_nil, sizeLine_eq, List.append_nil, List.cons_append, List.nil_append, if_true, if_false, Bool.false_eq_true, reduceCtorEq, reduceIte, Nat.reduceAdd, Nat.reduceLeDiff, mset_same, Option.bind_some, List.length_map, Prod.mk.injEq, at0, at1, at2, at3, ix30, ix31, ix32, ix20, ix21, ix10, isi_ii, isi_ib, isi_ll, isi_bb, isi_ss, isi_tt, isi_is, isi_si, Bool.not_true, Bool.not_false]
  try simp only [dSeq]
  try simp only [dIfS, dTest, dOp, dVar, dC, dCB, daCons, daNil, dSet, dRet, dNext, dDrop, dAsg, dPar, dAug, dAddI, dBreak, dCont, dRetN, slot, dLen, dCmpI, dSub, dAdd, dMul, dDiv, dMod, dPow, dNeg, dUn, dIx, dInt1, dAbs, dChain, dAnd, dOr, dNot, dAndV, dOrV, dNotV, dTru, dTruB, dIf, dTup, dLst, mkL, dSlice, dSl, doNone, doSome, dSum, dAll, dAny, dList, dTuple, dMax, dMin, eq_ii, ne_ii, eq_ss, ne_ss, eq_bb, ne_bb, eq_nn, ne_nn, dIsN, dNotN, dIsB, dNotB, gN, gT, gsNil, gsCons, gSet, dBM, dAppend, dClear, dFld, dFldS, dProp, dCall, dMeth, dMake, dCallO, dFor, dLc, diR1, diR2, diL, diT, diRv, diS, diE, dFmt, dFStr, dJs, dCallN, dFrzE, frz_l, in_ss, notin_ss, drR1, drR2, dListR, dRaise, dRaise0, dTryAs, dTry, dXf, dAddO, dInO, isL, insOf, Option.some.injEq, List.cons.injEq, D.int.injEq, D.bl.injEq, D.str.injEq, D.lst.injEq, D.tup.injEq, D.ref.injEq, MO.lst.injEq, MO.ins.injEq, mset_mset, and_true, true_and, and_self, and_assoc, exists_eq_left', exists_eq_left, exists_and_left, exists_and_right, exists_eq', List.set_cons_zero, List.set_cons_succ, decide_eq_true_eq, sqOf, lsOf, List.length_cons, List.length_nil, sizeLine_eq, List.append_nil, List.cons_append, List.nil_append, if_true, if_false, Bool.false_eq_true, reduceCtorEq, reduceIte, Nat.reduceAdd, Nat.reduceLeDiff, mset_same, Option.bind_some, List.length_map, Prod.mk.injEq, at0, at1, at2, at3, ix30, ix31, ix32, ix20, ix21, ix10, isi_ii, isi_ib, isi_ll, isi_bb, isi_ss, isi_tt, isi_is, isi_si, Bool.not_true, Bool.not_false]
  refine ⟨by omega, by omega, ?_⟩
  refine lc_rngF (fun k => onB z ((b + k) % z.length)) (fun k => .int (0 + (k : Int))) (by rw [sizeLine_eq]; omega) (fun k hk Q' q' => ?_) (fun k hk _ Q' q' => ?_) ?_
  · simp only [wipeD]
    try simp only [dIfS, dTest, dOp, dVar, dC, dCB, daCons, daNil, dSet, dRet, dNext, dDrop, dAsg, dPar, dAug, dAddI, dBreak, dCont, dRetN, slot, dLen, dCmpI, dSub, dAdd, dMul, dDiv, dMod, dPow, dNeg, dUn, dIx, dInt1, dAbs, dChain, dAnd, dOr, dNot, dAndV, dOrV, dNotV, dTru, dTruB, dIf, dTup, dLst, mkL, dSlice, dSl, doNone, doSome, dSum, dAll, dAny, dList, dTuple, dMax, dMin, eq_ii, ne_ii, eq_ss, ne_ss, eq_bb, ne_bb, eq_nn, ne_nn, dIsN, dNotN, dIsB, dNotB, gN, gT, gsNil, gsCons, gSet, dBM, dAppend, dClear, dFld, dFldS, dProp, dCall, dMeth, dMake, dCallO, dFor, dLc, diR1, diR2, diL, diT, diRv, diS, diE, dFmt, dFStr, dJs, dCallN, dFrzE, frz_l, in_ss, notin_ss, drR1, drR2, dListR, dRaise, dRaise0, dTryAs, dTry, dXf, dAddO, dInO, isL, insOf, Option.some.injEq, List.cons.injEq, D.int.injEq, D.bl.injEq, D.str.injEq, D.lst.injEq, D.tup.injEq, D.ref.injEq, MO.lst.injEq, MO.ins.injEq, mset_mset, and_true, true_and, and_self, and_assoc, exists_eq_left', exists_eq_left, exists_and_left, exists_and_right, exists_eq', List.set_cons_zero, List.set_cons_succ, decide_eq_true_eq, sqOf, lsOf, List.length_cons, List.length_nil, sizeLine_eq, List.append_nil, List.cons_append, List.nil_append, if_true, if_false, Bool.false_eq_true, reduceCtorEq, reduceIte, Nat.reduceAdd, Nat.reduceLeDiff, mset_same, Option.bind_some, List.length_map, Prod.mk.injEq, at0, at1, at2, at3, ix30, ix31, ix32, ix20, ix21, ix10, isi_ii, isi_ib, isi_ll, isi_bb, isi_ss, isi_tt, isi_is, isi_si, Bool.not_true, Bool.not_false]
    have hk2 : k < t % z.length := by omega
    have em2 : (((b : Int) + (0 + (k : Int))) % (z.length : Int)) = (((b + k) % z.length : Nat) : Int) := by simp
    rw [em2]
    have hlt : (b + k) % z.length < z.length := Nat.mod_lt _ (by omega)
    obtain ⟨c, h1, h2⟩ := atI_s (z := z) (i := (((b + k) % z.length : Nat) : Int)) (by omega) (by omega)
    refine ⟨by omega, by omega, c, h1, ?_⟩
    rw [on_dec h2, Int.toNat_natCast]
    exact q'
  · simp only [wipeD]
    try simp only [dIfS, dTest, dOp, dVar, dC, dCB, daCons, daNil, dSet, dRet, dNext, dDrop, dAsg, dPar, dAug, dAddI, dBreak, dCont, dRetN, slot, dLen, dCmpI, dSub, dAdd, dMul, dDiv, dMod, dPow, dNeg, dUn, dIx, dInt1, dAbs, dChain, dAnd, dOr, dNot, dAndV, dOrV, dNotV, dTru, dTruB, dIf, dTup, dLst, mkL, dSlice, dSl, doNone, doSome, dSum, dAll, dAny, dList, dTuple, dMax, dMin, eq_ii, ne_ii, eq_ss, ne_ss, eq_bb, ne_bb, eq_nn, ne_nn, dIsN, dNotN, dIsB, dNotB, gN, gT, gsNil, gsCons, gSet, dBM, dAppend, dClear, dFld, dFldS, dProp, dCall, dMeth, dMake, dCallO, dFor, dLc, diR1, diR2, diL, diT, diRv, diS, diE, dFmt, dFStr, dJs, dCallN, dFrzE, frz_l, in_ss, notin_ss, drR1, drR2, dListR, dRaise, dRaise0, dTryAs, dTry, dXf, dAddO, dInO, isL, insOf, Option.some.injEq, List.cons.injEq, D.int.injEq, D.bl.injEq, D.str.injEq, D.lst.injEq, D.tup.injEq, D.ref.injEq, MO.lst.injEq, MO.ins.injEq, mset_mset, and_true, true_and, and_self, and_assoc, exists_eq_left', exists_eq_left, exists_and_left, exists_and_right, exists_eq', List.set_cons_zero, List.set_cons_succ, decide_eq_true_eq, sqOf, lsOf, List.length_cons, List.length_nil, sizeLine_eq, List.append_nil, List.cons_append, List.nil_append, if_true, if_false, Bool.false_eq_true, reduceCtorEq, reduceIte, Nat.reduceAdd, Nat.reduceLeDiff, mset_same, Option.bind_some, List.length_map, Prod.mk.injEq, at0, at1, at2, at3, ix30, ix31, ix32, ix20, ix21, ix10, isi_ii, isi_ib, isi_ll, isi_bb, isi_ss, isi_tt, isi_is, isi_si, Bool.not_true, Bool.not_false]
    exact q'
  try simp only [dIfS, dTest, dOp, dVar, dC, dCB, daCons, daNil, dSet, dRet, dNext, dDrop, dAsg, dPar, dAug, dAddI, dBreak, dCont, dRetN, slot, dLen, dCmpI, dSub, dAdd, dMul, dDiv, dMod, dPow, dNeg, dUn, dIx, dInt1, dAbs, dChain, dAnd, dOr, dNot, dAndV, dOrV, dNotV, dTru, dTruB, dIf, dTup, dLst, mkL, dSlice, dSl, doNone, doSome, dSum, dAll, dAny, dList, dTuple, dMax, dMin, eq_ii, ne_ii, eq_ss, ne_ss, eq_bb, ne_bb, eq_nn, ne_nn, dIsN, dNotN, dIsB, dNotB, gN, gT, gsNil, gsCons, gSet, dBM, dAppend, dClear, dFld, dFldS, dProp, dCall, dMeth, dMake, dCallO, dFor, dLc, diR1, diR2, diL, diT, diRv, diS, diE, dFmt, dFStr, dJs, dCallN, dFrzE, frz_l, in_ss, notin_ss, drR1, drR2, dListR, dRaise, dRaise0, dTryAs, dTry, dXf, dAddO, dInO, isL, insOf, Option.some.injEq, List.cons.injEq, D.int.injEq, D.bl.injEq, D.str.injEq, D.lst.injEq, D.tup.injEq, D.ref.injEq, MO.lst.injEq, MO.ins.injEq, mset_mset, and_true, true_and, and_self, and_assoc, exists_eq_left', exists_eq_left, exists_and_left, exists_and_right, exists_eq', List.set_cons_zero, List.set_cons_succ, decide_eq_true_eq, sqOf, lsOf, List.length_cons, List.length_nil, sizeLine_eq, List.append_nil, List.cons_append, List.nil_append, if_true, if_false, Bool.false_eq_true, reduceCtorEq, reduceIte, Nat.reduceAdd, Nat.reduceLeDiff, mset_same, Option.bind_some, List.length_map, Prod.mk.injEq, at0, at1, at2, at3, ix30, ix31, ix32, ix20, ix21, ix10, isi_ii, isi_ib, isi_ll, isi_bb, isi_ss, isi_tt, isi_is, isi_si, Bool.not_true, Bool.not_false]
  refine ⟨⟨z, rfl⟩, z, _, rfl, rfl, ?_⟩
  have hcnt := cnt_le z
  show DL.MulOk _ (cntS z) ∧ Q (.int (_ * cntS z + _)) m
  refine ⟨mul_small (by omega), ?_⟩
  unfold opn at q
  rw [Int.toNat_natCast]
  exact q
theorem pure_law_open {K : Fr0} {mg : Str → Option Value} (T : Txt K mg) (ds : List D) (m : M) (Q : D → M → Prop) (E : XD → M → Prop) (h : sp_law_open K ds m Q E) : t_law_open K (fun x _ m => E x m) { nx := fun _ m => Q .non m, rt := Q } (startD nm_law_open ds) m := by
  obtain ⟨z, b, t, rfl, hc, hb, ht, q⟩ := h
  obtain ⟨n1, n2, hat⟩ := cal_ok hc
  show t_law_open K _ _ [some (.str z), some (.int b), some (.int t), none, none, none] m
  unfold t_law_open
  try simp only [dSeq]
  try simp only [dIfS, dTest, dOp, dVar, dC, dCB, daCons, daNil, dSet, dRet, dNext, dDrop, dAsg, dPar, dAug, dAddI, dBreak, dCont, dRetN, slot, dLen, dCmpI, dSub, dAdd, dMul, dDiv, dMod, dPow, dNeg, dUn, dIx, dInt1, dAbs, dChain, dAnd, dOr, dNot, dAndV, dOrV, dNotV, dTru, dTruB, dIf, dTup, dLst, mkL, dSlice, dSl, doNone, doSome, dSum, dAll, dAny, dList, dTuple, dMax, dMin, eq_ii, ne_ii, eq_ss, ne_ss, eq_bb, ne_bb, eq_nn, ne_nn, dIsN, dNotN, dIsB, dNotB, gN, gT, gsNil, gsCons, gSet, dBM, dAppend, dClear, dFld, dFldS, dProp, dCall, dMeth, dMake, dCallO, dFor, dLc, diR1, diR2, diL, diT, diRv, diS, diE, dFmt, dFStr, dJs, dCallN, dFrzE, frz_l, in_ss, notin_ss, drR1, drR2, dListR, dRaise, dRaise0, dTryAs, dTry, dXf, dAddO, dInO, isL, insOf, Option.some.injEq, List.cons.injEq, D.int.injEq, D.bl.injEq, D.str.injEq, D.lst.injEq, D.tup.injEq, D.ref.injEq, MO.lst.injEq, MO.ins.injEq, mset_mset, and_true, true_and, and_self, and_assoc, exists_eq_left', exists_eq_left, exists_and_left, exists_and_right, exists_eq', List.set_cons_zero, List.set_cons_succ, decide_eq_true_eq, sqOf, lsOf, List.length_cons, List.length_nil, sizeLine_eq, List.append_nil, List.cons_append, List.nil_append, if_true, if_false, Bool.false_eq_true, reduceCtorEq, reduceIte, Nat.reduceAdd, Nat.reduceLeDiff, mset_same, Option.bind_some, List.length_map, Prod.mk.injEq, at0, at1, at2, at3, ix30, ix31, ix32, ix20, ix21, ix10, isi_ii, isi_ib, isi_ll, isi_bb, isi_ss, isi_tt, isi_is, isi_si, Bool.not_true, Bool.not_false]
  try simp only [dSeq]
  try simp only [dIfS, dTest, dOp, dVar, dC, dCB, daCons, daNil, dSet, dRet, dNext, dDrop, dAsg, dPar, dAug, dAddI, dBreak, dCont, dRetN, slot, dLen, dCmpI, dSub, dAdd, dMul, dDiv, dMod, dPow, dNeg, dUn, dIx, dInt1, dAbs, dChain, dAnd, dOr, dNot, dAndV, dOrV, dNotV, dTru, dTruB, dIf, dTup, dLst, mkL, dSlice, dSl, doNone, doSome, dSum, dAll, dAny, dList, dTuple, dMax, dMin, eq_ii, ne_ii, eq_ss, ne_ss, eq_bb, ne_bb, eq_nn, ne_nn, dIsN, dNotN, dIsB, dNotB, gN, gT, gsNil, gsCons, gSet, dBM, dAppend, dClear, dFld, dFldS, dProp, dCall, dMeth, dMake, dCallO, dFor, dLc, diR1, diR2, diL, diT, diRv, diS, diE, dFmt, dFStr, dJs, dCallN, dFrzE, frz_l, in_ss, notin_ss, drR1, drR2, dListR, dRaise, dRaise0, dTryAs, dTry, dXf, dAddO, dInO, isL, insOf, Option.some.injEq, List.cons.injEq, D.int.injEq, D.bl.injEq, D.str.injEq, D.lst.injEq, D.tup.injEq, D.ref.injEq, MO.lst.injEq, MO.ins.injEq, mset_mset, and_true, true_and, and_self, and_assoc, exists_eq_left', exists_eq_left, exists_and_left, exists_and_right, exists_eq', List.set_cons_zero, List.set_cons_succ, decide_eq_true_eq, sqOf, lsOf, List.length_cons, List.length_nil, sizeLine_eq, List.append_nil, List.cons_append, List.nil_append, if_true, if_false, Bool.false_eq_true, reduceCtorEq, reduceIte, Nat.reduceAdd, Nat.reduceLeDiff, mset_same, Option.bind_some, List.length_map, Prod.mk.injEq, at0, at1, at2, at3, ix30, ix31, ix32, ix20, ix21, ix10, isi_ii, isi_ib, isi_ll, isi_bb, isi_ss, isi_tt, isi_is, isi_si, Bool.not_true, Bool.not_false]
  have hm : t % z.length < z.length := Nat.mod_lt _ (by omega)
  have em : ((t : Int) % (z.length : Int)) = ((t % z.length : Nat) : Int) := by simp
  have ed : ((t : Int) / (z.length : Int)) = ((t / z.length : Nat) : Int) := by simp
  rw [em, ed]
  refine ⟨by omega, by omega, by omega, by omega, ?_⟩
  refine lc_rngF (fun k => onB z ((b + k) % z.length)) (fun k => .int (0 + (k : Int))) (by rw [sizeLine_eq]; omega) (fun k hk Q' q' => ?_) (fun k hk _ Q' q' => ?_) ?_
  · simp only [wipeD]
    try simp only [dIfS, dTest, dOp, dVar, dC, dCB, daCons, daNil, dSet, dRet, dNext, dDrop, dAsg, dPar, dAug, dAddI, dBreak, dCont, dRetN, slot, dLen, dCmpI, dSub, dAdd, dMul, dDiv, dMod, dPow, dNeg, dUn, dIx, dInt1, dAbs, dChain, dAnd, dOr, dNot, dAndV, dOrV, dNotV, dTru, dTruB, dIf, dTup, dLst, mkL, dSlice, dSl, doNone, doSome, dSum, dAll, dAny, dList, dTuple, dMax, dMin, eq_ii, ne_ii, eq_ss, ne_ss, eq_bb, ne_bb, eq_nn, ne_nn, dIsN, dNotN, dIsB, dNotB, gN, gT, gsNil, gsCons, gSet, dBM, dAppend, dClear, dFld, dFldS, dProp, dCall, dMeth, dMake, dCallO, dFor, dLc, diR1, diR2, diL, diT, diRv, diS, diE, dFmt, dFStr, dJs, dCallN, dFrzE, frz_l, in_ss, notin_ss, drR1, drR2, dListR, dRaise, dRaise0, dTryAs, dTry, dXf, dAddO, dInO, isL, insOf, Option.some.injEq, List.cons.injEq, D.int.injEq, D.bl.injEq, D.str.injEq, D.lst.injEq, D.tup.injEq, D.ref.injEq, MO.lst.injEq, MO.ins.injEq, mset_mset, and_true, true_and, and_self, and_assoc, exists_eq_left', exists_eq_left, exists_and_left, exists_and_right, exists_eq', List.set_cons_zero, List.set_cons_succ, decide_eq_true_eq, sqOf, lsOf, List.length_cons, List.length_nil, sizeLine_eq, List.append_nil, List.cons_append, List.nil_append, if_true, if_false, Bool.false_eq_true, reduceCtorEq, reduceIte, Nat.reduceAdd, Nat.reduceLeDiff, mset_same, Option.bind_some, List.length_map, Prod.mk.injEq, at0, at1, at2, at3, ix30, ix31, ix32, ix20, ix21, ix10, isi_ii, isi_ib, isi_ll, isi_bb, isi_ss, isi_tt, isi_is, isi_si, Bool.not_true, Bool.not_false]
    have hk2 : k < t % z.length := by omega
    have em2 : (((b : Int) + (0 + (k : Int))) % (z.length : Int)) = (((b + k) % z.length : Nat) : Int) := by simp
    rw [em2]
    have hlt : (b + k) % z.length < z.length := Nat.mod_lt _ (by omega)
    obtain ⟨c, h1, h2⟩ := atI_s (z := z) (i := (((b + k) % z.length : Nat) : Int)) (by omega) (by omega)
    refine ⟨by omega, by omega, c, h1, ?_⟩
    rw [on_dec h2, Int.toNat_natCast]
    exact q'
  · simp only [wipeD]
    try simp only [dIfS, dTest, dOp, dVar, dC, dCB, daCons, daNil, dSet, dRet, dNext, dDrop, dAsg, dPar, dAug, dAddI, dBreak, dCont, dRetN, slot, dLen, dCmpI, dSub, dAdd, dMul, dDiv, dMod, dPow, dNeg, dUn, dIx, dInt1, dAbs, dChain, dAnd, dOr, dNot, dAndV, dOrV, dNotV, dTru, dTruB, dIf, dTup, dLst, mkL, dSlice, dSl, doNone, doSome, dSum, dAll, dAny, dList, dTuple, dMax, dMin, eq_ii, ne_ii, eq_ss, ne_ss, eq_bb, ne_bb, eq_nn, ne_nn, dIsN, dNotN, dIsB, dNotB, gN, gT, gsNil, gsCons, gSet, dBM, dAppend, dClear, dFld, dFldS, dProp, dCall, dMeth, dMake, dCallO, dFor, dLc, diR1, diR2, diL, diT, diRv, diS, diE, dFmt, dFStr, dJs, dCallN, dFrzE, frz_l, in_ss, notin_ss, drR1, drR2, dListR, dRaise, dRaise0, dTryAs, dTry, dXf, dAddO, dInO, isL, insOf, Option.some.injEq, List.cons.injEq, D.int.injEq, D.bl.injEq, D.str.injEq, D.lst.injEq, D.tup.injEq, D.ref.injEq, MO.lst.injEq, MO.ins.injEq, mset_mset, and_true, true_and, and_self, and_assoc, exists_eq_left', exists_eq_left, exists_and_left, exists_and_right, exists_eq', List.set_cons_zero, List.set_cons_succ, decide_eq_true_eq, sqOf, lsOf, List.length_cons, List.length_nil, sizeLine_eq, List.append_nil, List.cons_append, List.nil_append, if_true, if_false, Bool.false_eq_true, reduceCtorEq, reduceIte, Nat.reduceAdd, Nat.reduceLeDiff, mset_same, Option.bind_some, List.length_map, Prod.mk.injEq, at0, at1, at2, at3, ix30, ix31, ix32, ix20, ix21, ix10, isi_ii, isi_ib, isi_ll, isi_bb, isi_ss, isi_tt, isi_is, isi_si, Bool.not_true, Bool.not_false]
    exact q'
  try simp only [dIfS, dTest, dOp, dVar, dC, dCB, daCons, daNil, dSet, dRet, dNext, dDrop, dAsg, dPar, dAug, dAddI, dBreak, dCont, dRetN, slot, dLen, dCmpI, dSub, dAdd, dMul, dDiv, dMod, dPow, dNeg, dUn, dIx, dInt1, dAbs, dChain, dAnd, dOr, dNot, dAndV, dOrV, dNotV, dTru, dTruB, dIf, dTup, dLst, mkL, dSlice, dSl, doNone, doSome, dSum, dAll, dAny, dList, dTuple, dMax, dMin, eq_ii, ne_ii, eq_ss, ne_ss, eq_bb, ne_bb, eq_nn, ne_nn, dIsN, dNotN, dIsB, dNotB, gN, gT, gsNil, gsCons, gSet, dBM, dAppend, dClear, dFld, dFldS, dProp, dCall, dMeth, dMake, dCallO, dFor, dLc, diR1, diR2, diL, diT, diRv, diS, diE, dFmt, dFStr, dJs, dCallN, dFrzE, frz_l, in_ss, notin_ss, drR1, drR2, dListR, dRaise, dRaise0, dTryAs, dTry, dXf, dAddO, dInO, isL, insOf, Option.some.injEq, List.cons.injEq, D.int.injEq, D.bl.injEq, D.str.injEq, D.lst.injEq, D.tup.injEq, D.ref.injEq, MO.lst.injEq, MO.ins.injEq, mset_mset, and_true, true_and, and_self, and_assoc, exists_eq_left', exists_eq_left, exists_and_left, exists_and_right, exists_eq', List.set_cons_zero, List.set_cons_succ, decide_eq_true_eq, sqOf, lsOf, List.length_cons, List.length_nil, sizeLine_eq, List.append_nil, List.cons_append, List.nil_append, if_true, if_false, Bool.false_eq_true, reduceCtorEq, reduceIte, Nat.reduceAdd, Nat.reduceLeDiff, mset_same, Option.bind_some, List.length_map, Prod.mk.injEq, at0, at1, at2, at3, ix30, ix31, ix32, ix20, ix21, ix10, isi_ii, isi_ib, isi_ll, isi_bb, isi_ss, isi_tt, isi_is, isi_si, Bool.not_true, Bool.not_false]
  refine ⟨div_ok (by omega) (by omega), ⟨z, rfl⟩, z, _, rfl, rfl, ?_⟩
  have hcnt := cnt_le z
  show DL.MulOk _ (cntS z) ∧ Q (.int (_ * cntS z + _)) m
  refine ⟨mul_small (by omega), ?_⟩
  unfold opn at q
  rw [Int.toNat_natCast]
  simpa using q
/-- the first of the least -/
theorem first_low (f : Nat → Int) (n : Nat) {k : Int} (hk : k ∈ (List.range n).map f) : ∃ j, j < n ∧ f j = k ∧ ∀ i, i < j → f i ≠ k := by
  obtain ⟨b, hb, rfl⟩ := List.mem_map.mp hk
  have hb := List.mem_range.mp hb
  have key : ∀ j, j < n → f j = f b → ∃ j, j < n ∧ f j = f b ∧ ∀ i, i < j → f i ≠ f b := by
    intro j
    induction j using Nat.strongRecOn with
    | _ j ih =>
      intro hj e
      by_cases h : ∃ i, i < j ∧ f i = f b
      · obtain ⟨i, h1, h2⟩ := h
        exact ih i h1 (by omega) h2
      · exact ⟨j, hj, e, fun i hi he => h ⟨i, hi, he⟩⟩
  exact key b hb rfl
theorem pure_worst_begin {K : Fr0} {mg : Str → Option Value} (T : Txt K mg) (ds : List D) (m : M) (Q : D → M → Prop) (E : XD → M → Prop) (h : sp_worst_begin K ds m Q E) : t_worst_begin K (fun x _ m => E x m) { nx := fun _ m => Q .non m, rt := Q } (startD nm_worst_begin ds) m := by
  obtain ⟨z, t, rfl, hz, ht, qe, q⟩ := h
  show t_worst_begin K _ _ [some (.str z), some (.int t), none, none] m
  unfold t_worst_begin
  try simp only [dSeq]
  try simp only [dIfS, dTest, dOp, dVar, dC, dCB, daCons, daNil, dSet, dRet, dNext, dDrop, dAsg, dPar, dAug, dAddI, dBreak, dCont, dRetN, slot, dLen, dCmpI, dSub, dAdd, dMul, dDiv, dMod, dPow, dNeg, dUn, dIx, dInt1, dAbs, dChain, dAnd, dOr, dNot, dAndV, dOrV, dNotV, dTru, dTruB, dIf, dTup, dLst, mkL, dSlice, dSl, doNone, doSome, dSum, dAll, dAny, dList, dTuple, dMax, dMin, eq_ii, ne_ii, eq_ss, ne_ss, eq_bb, ne_bb, eq_nn, ne_nn, dIsN, dNotN, dIsB, dNotB, gN, gT, gsNil, gsCons, gSet, dBM, dAppend, dClear, dFld, dFldS, dProp, dCall, dMeth, dMake, dCallO, dFor, dLc, diR1, diR2, diL, diT, diRv, diS, diE, dFmt, dFStr, dJs, dCallN, dFrzE, frz_l, in_ss, notin_ss, drR1, drR2, dListR, dRaise, dRaise0, dTryAs, dTry, dXf, dAddO, dInO, isL, insOf, Option.some.injEq, List.cons.injEq, D.int.injEq, D.bl.injEq, D.str.injEq, D.lst.injEq, D.tup.injEq, D.ref.injEq, MO.lst.injEq, MO.ins.injEq, mset_mset, and_true, true_and, and_self, and_assoc, exists_eq_left', exists_eq_left, exists_and_left, exists_and_right, exists_eq', List.set_cons_zero, List.set_cons_succ, decide_eq_true_eq, sqOf, lsOf, List.length_cons, List.length_nil, sizeLine_eq, List.append_nil, List.cons_append, List.nil_append, if_true, if_false, Bool.false_eq_true, reduceCtorEq, reduceIte, Nat.reduceAdd, Nat.reduceLeDiff, mset_same, Option.bind_some, List.length_map, Prod.mk.injEq, at0, at1, at2, at3, ix30, ix31, ix32, ix20, ix21, ix10, isi_ii, isi_ib, isi_ll, isi_bb, isi_ss, isi_tt, isi_is, isi_si, Bool.not_true, Bool.not_false]
  refine ⟨z, rfl, hz, fun hc => ?_, qe⟩
  obtain ⟨n1, n2, hat⟩ := cal_ok hc
  have q := q hc
  try simp only [dSeq]
  try simp only [dIfS, dTest, dOp, dVar, dC, dCB, daCons, daNil, dSet, dRet, dNext, dDrop, dAsg, dPar, dAug, dAddI, dBreak, dCont, dRetN, slot, dLen, dCmpI, dSub, dAdd, dMul, dDiv, dMod, dPow, dNeg, dUn, dIx, dInt1, dAbs, dChain, dAnd, dOr, dNot, dAndV, dOrV, dNotV, dTru, dTruB, dIf, dTup, dLst, mkL, dSlice, dSl, doNone, doSome, dSum, dAll, dAny, dList, dTuple, dMax, dMin, eq_ii, ne_ii, eq_ss, ne_ss, eq_bb, ne_bb, eq_nn, ne_nn, dIsN, dNotN, dIsB, dNotB, gN, gT, gsNil, gsCons, gSet, dBM, dAppend, dClear, dFld, dFldS, dProp, dCall, dMeth, dMake, dCallO, dFor, dLc, diR1, diR2, diL, diT, diRv, diS, diE, dFmt, dFStr, dJs, dCallN, dFrzE, frz_l, in_ss, notin_ss, drR1, drR2, dListR, dRaise, dRaise0, dTryAs, dTry, dXf, dAddO, dInO, isL, insOf, Option.some.injEq, List.cons.injEq, D.int.injEq, D.bl.injEq, D.str.injEq, D.lst.injEq, D.tup.injEq, D.ref.injEq, MO.lst.injEq, MO.ins.injEq, mset_mset, and_true, true_and, and_self, and_assoc, exists_eq_left', exists_eq_left, exists_and_left, exists_and_right, exists_eq', List.set_cons_zero, List.set_cons_succ, decide_eq_true_eq, sqOf, lsOf, List.length_cons, List.length_nil, sizeLine_eq, List.append_nil, List.cons_append, List.nil_append, if_true, if_false, Bool.false_eq_true, reduceCtorEq, reduceIte, Nat.reduceAdd, Nat.reduceLeDiff, mset_same, Option.bind_some, List.length_map, Prod.mk.injEq, at0, at1, at2, at3, ix30, ix31, ix32, ix20, ix21, ix10, isi_ii, isi_ib, isi_ll, isi_bb, isi_ss, isi_tt, isi_is, isi_si, Bool.not_true, Bool.not_false]
  refine ⟨by omega, by omega, by omega, ?_⟩
  rw [Int.toNat_natCast]
  refine lc_rng (fun k => .int (opn z k t)) (by rw [sizeLine_eq]; omega) (fun k hk Q' q' => ?_) ?_
  · simp only [wipeD]
    try simp only [dIfS, dTest, dOp, dVar, dC, dCB, daCons, daNil, dSet, dRet, dNext, dDrop, dAsg, dPar, dAug, dAddI, dBreak, dCont, dRetN, slot, dLen, dCmpI, dSub, dAdd, dMul, dDiv, dMod, dPow, dNeg, dUn, dIx, dInt1, dAbs, dChain, dAnd, dOr, dNot, dAndV, dOrV, dNotV, dTru, dTruB, dIf, dTup, dLst, mkL, dSlice, dSl, doNone, doSome, dSum, dAll, dAny, dList, dTuple, dMax, dMin, eq_ii, ne_ii, eq_ss, ne_ss, eq_bb, ne_bb, eq_nn, ne_nn, dIsN, dNotN, dIsB, dNotB, gN, gT, gsNil, gsCons, gSet, dBM, dAppend, dClear, dFld, dFldS, dProp, dCall, dMeth, dMake, dCallO, dFor, dLc, diR1, diR2, diL, diT, diRv, diS, diE, dFmt, dFStr, dJs, dCallN, dFrzE, frz_l, in_ss, notin_ss, drR1, drR2, dListR, dRaise, dRaise0, dTryAs, dTry, dXf, dAddO, dInO, isL, insOf, Option.some.injEq, List.cons.injEq, D.int.injEq, D.bl.injEq, D.str.injEq, D.lst.injEq, D.tup.injEq, D.ref.injEq, MO.lst.injEq, MO.ins.injEq, mset_mset, and_true, true_and, and_self, and_assoc, exists_eq_left', exists_eq_left, exists_and_left, exists_and_right, exists_eq', List.set_cons_zero, List.set_cons_succ, decide_eq_true_eq, sqOf, lsOf, List.length_cons, List.length_nil, sizeLine_eq, List.append_nil, List.cons_append, List.nil_append, if_true, if_false, Bool.false_eq_true, reduceCtorEq, reduceIte, Nat.reduceAdd, Nat.reduceLeDiff, mset_same, Option.bind_some, List.length_map, Prod.mk.injEq, at0, at1, at2, at3, ix30, ix31, ix32, ix20, ix21, ix10, isi_ii, isi_ib, isi_ll, isi_bb, isi_ss, isi_tt, isi_is, isi_si, Bool.not_true, Bool.not_false]
    exact ⟨z, k, t, by simp, hc, by omega, ht, q'⟩
  refine ⟨(List.range z.length).map fun b => opn z b t, by rw [List.map_map]; rfl, by simp; omega, fun k hk hmin => ?_⟩
  obtain ⟨j, hj, ej, hno⟩ := first_low (fun b => opn z b t) z.length hk
  have ej : opn z j t = k := ej
  refine index_ints (ns := (List.range z.length).map fun b => opn z b t) (j := j) (by show some _ = some _; rw [List.map_map]; rfl) ?_ (fun i x hi hx => ?_) (q j ⟨hj, ⟨⟨j, hj, rfl⟩, fun b hb => ?_⟩, fun c hc2 => ?_⟩)
  · rw [List.getElem?_map, List.getElem?_range hj]
    simp [ej]
  · rw [List.getElem?_map, List.getElem?_range (by omega)] at hx
    cases hx
    exact hno i hi
  · rw [ej]
    exact hmin _ (List.mem_map_of_mem (List.mem_range.mpr hb))
  · rw [ej]
    exact hno c hc2
theorem pure_calendar_row {K : Fr0} {mg : Str → Option Value} (T : Txt K mg) (ds : List D) (m : M) (Q : D → M → Prop) (E : XD → M → Prop) (h : sp_calendar_row K ds m Q E) : t_calendar_row K (fun x _ m => E x m) { nx := fun _ m => Q .non m, rt := Q } (startD nm_calendar_row ds) m := by
  obtain ⟨z, s, rfl, hz, qc, qs, q⟩ := h
  show t_calendar_row K _ _ [some (.str z), some (.int s), none, none, none, none] m
  unfold t_calendar_row
  try simp only [dSeq]
  try simp only [dIfS, dTest, dOp, dVar, dC, dCB, daCons, daNil, dSet, dRet, dNext, dDrop, dAsg, dPar, dAug, dAddI, dBreak, dCont, dRetN, slot, dLen, dCmpI, dSub, dAdd, dMul, dDiv, dMod, dPow, dNeg, dUn, dIx, dInt1, dAbs, dChain, dAnd, dOr, dNot, dAndV, dOrV, dNotV, dTru, dTruB, dIf, dTup, dLst, mkL, dSlice, dSl, doNone, doSome, dSum, dAll, dAny, dList, dTuple, dMax, dMin, eq_ii, ne_ii, eq_ss, ne_ss, eq_bb, ne_bb, eq_nn, ne_nn, dIsN, dNotN, dIsB, dNotB, gN, gT, gsNil, gsCons, gSet, dBM, dAppend, dClear, dFld, dFldS, dProp, dCall, dMeth, dMake, dCallO, dFor, dLc, diR1, diR2, diL, diT, diRv, diS, diE, dFmt, dFStr, dJs, dCallN, dFrzE, frz_l, in_ss, notin_ss, drR1, drR2, dListR, dRaise, dRaise0, dTryAs, dTry, dXf, dAddO, dInO, isL, insOf, Option.some.injEq, List.cons.injEq, D.int.injEq, D.bl.injEq, D.str.injEq, D.lst.injEq, D.tup.injEq, D.ref.injEq, MO.lst.injEq, MO.ins.injEq, mset_mset, and_true, true_and, and_self, and_assoc, exists_eq_left', exists_eq_left, exists_and_left, exists_and_right, exists_eq', List.set_cons_zero, List.set_cons_succ, decide_eq_true_eq, sqOf, lsOf, List.length_cons, List.length_nil, sizeLine_eq, List.append_nil, List.cons_append, List.nil_append, if_true, if_false, Bool.false_eq_true, reduceCtorEq, reduceIte, Nat.reduceAdd, Nat.reduceLeDiff, mset_same, Option.bind_some, List.length_map, Prod.mk.injEq, at0, at1, at2, at3, ix30, ix31, ix32, ix20, ix21, ix10, isi_ii, isi_ib, isi_ll, isi_bb, isi_ss, isi_tt, isi_is, isi_si, Bool.not_true, Bool.not_false]
  refine ⟨z, rfl, hz, fun hc => ?_, qc⟩
  obtain ⟨n1, n2, hat⟩ := cal_ok hc
  try simp only [dSeq]
  try simp only [dIfS, dTest, dOp, dVar, dC, dCB, daCons, daNil, dSet, dRet, dNext, dDrop, dAsg, dPar, dAug, dAddI, dBreak, dCont, dRetN, slot, dLen, dCmpI, dSub, dAdd, dMul, dDiv, dMod, dPow, dNeg, dUn, dIx, dInt1, dAbs, dChain, dAnd, dOr, dNot, dAndV, dOrV, dNotV, dTru, dTruB, dIf, dTup, dLst, mkL, dSlice, dSl, doNone, doSome, dSum, dAll, dAny, dList, dTuple, dMax, dMin, eq_ii, ne_ii, eq_ss, ne_ss, eq_bb, ne_bb, eq_nn, ne_nn, dIsN, dNotN, dIsB, dNotB, gN, gT, gsNil, gsCons, gSet, dBM, dAppend, dClear, dFld, dFldS, dProp, dCall, dMeth, dMake, dCallO, dFor, dLc, diR1, diR2, diL, diT, diRv, diS, diE, dFmt, dFStr, dJs, dCallN, dFrzE, frz_l, in_ss, notin_ss, drR1, drR2, dListR, dRaise, dRaise0, dTryAs, dTry, dXf, dAddO, dInO, isL, insOf, Option.some.injEq, List.cons.injEq, D.int.injEq, D.bl.injEq, D.str.injEq, D.lst.injEq, D.tup.injEq, D.ref.injEq, MO.lst.injEq, MO.ins.injEq, mset_mset, and_true, true_and, and_self, and_assoc, exists_eq_left', exists_eq_left, exists_and_left, exists_and_right, exists_eq', List.set_cons_zero, List.set_cons_succ, decide_eq_true_eq, sqOf, lsOf, List.length_cons, List.length_nil, sizeLine_eq, List.append_nil, List.cons_append, List.nil_append, if_true, if_false, Bool.false_eq_true, reduceCtorEq, reduceIte, Nat.reduceAdd, Nat.reduceLeDiff, mset_same, Option.bind_some, List.length_map, Prod.mk.injEq, at0, at1, at2, at3, ix30, ix31, ix32, ix20, ix21, ix10, isi_ii, isi_ib, isi_ll, isi_bb, isi_ss, isi_tt, isi_is, isi_si, Bool.not_true, Bool.not_false]
  refine ⟨s, rfl, fun hs => ?_, qs hc⟩
  have q := q hc hs.1 hs.2
  obtain ⟨s1, s2⟩ := hs
  try simp only [dSeq]
  try simp only [dIfS, dTest, dOp, dVar, dC, dCB, daCons, daNil, dSet, dRet, dNext, dDrop, dAsg, dPar, dAug, dAddI, dBreak, dCont, dRetN, slot, dLen, dCmpI, dSub, dAdd, dMul, dDiv, dMod, dPow, dNeg, dUn, dIx, dInt1, dAbs, dChain, dAnd, dOr, dNot, dAndV, dOrV, dNotV, dTru, dTruB, dIf, dTup, dLst, mkL, dSlice, dSl, doNone, doSome, dSum, dAll, dAny, dList, dTuple, dMax, dMin, eq_ii, ne_ii, eq_ss, ne_ss, eq_bb, ne_bb, eq_nn, ne_nn, dIsN, dNotN, dIsB, dNotB, gN, gT, gsNil, gsCons, gSet, dBM, dAppend, dClear, dFld, dFldS, dProp, dCall, dMeth, dMake, dCallO, dFor, dLc, diR1, diR2, diL, diT, diRv, diS, diE, dFmt, dFStr, dJs, dCallN, dFrzE, frz_l, in_ss, notin_ss, drR1, drR2, dListR, dRaise, dRaise0, dTryAs, dTry, dXf, dAddO, dInO, isL, insOf, Option.some.injEq, List.cons.injEq, D.int.injEq, D.bl.injEq, D.str.injEq, D.lst.injEq, D.tup.injEq, D.ref.injEq, MO.lst.injEq, MO.ins.injEq, mset_mset, and_true, true_and, and_self, and_assoc, exists_eq_left', exists_eq_left, exists_and_left, exists_and_right, exists_eq', List.set_cons_zero, List.set_cons_succ, decide_eq_true_eq, sqOf, lsOf, List.length_cons, List.length_nil, sizeLine_eq, List.append_nil, List.cons_append, List.nil_append, if_true, if_false, Bool.false_eq_true, reduceCtorEq, reduceIte, Nat.reduceAdd, Nat.reduceLeDiff, mset_same, Option.bind_some, List.length_map, Prod.mk.injEq, at0, at1, at2, at3, ix30, ix31, ix32, ix20, ix21, ix10, isi_ii, isi_ib, isi_ll, isi_bb, isi_ss, isi_tt, isi_is, isi_si, Bool.not_true, Bool.not_false]
  refine ⟨by omega, ?_⟩
  try simp only [dSeq]
  try simp only [dIfS, dTest, dOp, dVar, dC, dCB, daCons, daNil, dSet, dRet, dNext, dDrop, dAsg, dPar, dAug, dAddI, dBreak, dCont, dRetN, slot, dLen, dCmpI, dSub, dAdd, dMul, dDiv, dMod, dPow, dNeg, dUn, dIx, dInt1, dAbs, dChain, dAnd, dOr, dNot, dAndV, dOrV, dNotV, dTru, dTruB, dIf, dTup, dLst, mkL, dSlice, dSl, doNone, doSome, dSum, dAll, dAny, dList, dTuple, dMax, dMin, eq_ii, ne_ii, eq_ss, ne_ss, eq_bb, ne_bb, eq_nn, ne_nn, dIsN, dNotN, dIsB, dNotB, gN, gT, gsNil, gsCons, gSet, dBM, dAppend, dClear, dFld, dFldS, dProp, dCall, dMeth, dMake, dCallO, dFor, dLc, diR1, diR2, diL, diT, diRv, diS, diE, dFmt, dFStr, dJs, dCallN, dFrzE, frz_l, in_ss, notin_ss, drR1, drR2, dListR, dRaise, dRaise0, dTryAs, dTry, dXf, dAddO, dInO, isL, insOf, Option.some.injEq, List.cons.injEq, D.int.injEq, D.bl.injEq, D.str.injEq, D.lst.injEq, D.tup.injEq, D.ref.injEq, MO.lst.injEq, MO.ins.injEq, mset_mset, and_true, true_and, and_self, and_assoc, exists_eq_left', exists_eq_left, exists_and_left, exists_and_right, exists_eq', List.set_cons_zero, List.set_cons_succ, decide_eq_true_eq, sqOf, lsOf, List.length_cons, List.length_nil, sizeLine_eq, List.append_nil, List.cons_append, List.nil_append, if_true, if_false, Bool.false_eq_true, reduceCtorEq, reduceIte, Nat.reduceAdd, Nat.reduceLeDiff, mset_same, Option.bind_some, List.length_map, Prod.mk.injEq, at0, at1, at2, at3, ix30, ix31, ix32, ix20, ix21, ix10, isi_ii, isi_ib, isi_ll, isi_bb, isi_ss, isi_tt, isi_is, isi_si, Bool.not_true, Bool.not_false]
  intro b hb
  try simp only [dSeq]
  try simp only [dIfS, dTest, dOp, dVar, dC, dCB, daCons, daNil, dSet, dRet, dNext, dDrop, dAsg, dPar, dAug, dAddI, dBreak, dCont, dRetN, slot, dLen, dCmpI, dSub, dAdd, dMul, dDiv, dMod, dPow, dNeg, dUn, dIx, dInt1, dAbs, dChain, dAnd, dOr, dNot, dAndV, dOrV, dNotV, dTru, dTruB, dIf, dTup, dLst, mkL, dSlice, dSl, doNone, doSome, dSum, dAll, dAny, dList, dTuple, dMax, dMin, eq_ii, ne_ii, eq_ss, ne_ss, eq_bb, ne_bb, eq_nn, ne_nn, dIsN, dNotN, dIsB, dNotB, gN, gT, gsNil, gsCons, gSet, dBM, dAppend, dClear, dFld, dFldS, dProp, dCall, dMeth, dMake, dCallO, dFor, dLc, diR1, diR2, diL, diT, diRv, diS, diE, dFmt, dFStr, dJs, dCallN, dFrzE, frz_l, in_ss, notin_ss, drR1, drR2, dListR, dRaise, dRaise0, dTryAs, dTry, dXf, dAddO, dInO, isL, insOf, Option.some.injEq, List.cons.injEq, D.int.injEq, D.bl.injEq, D.str.injEq, D.lst.injEq, D.tup.injEq, D.ref.injEq, MO.lst.injEq, MO.ins.injEq, mset_mset, and_true, true_and, and_self, and_assoc, exists_eq_left', exists_eq_left, exists_and_left, exists_and_right, exists_eq', List.set_cons_zero, List.set_cons_succ, decide_eq_true_eq, sqOf, lsOf, List.length_cons, List.length_nil, sizeLine_eq, List.append_nil, List.cons_append, List.nil_append, if_true, if_false, Bool.false_eq_true, reduceCtorEq, reduceIte, Nat.reduceAdd, Nat.reduceLeDiff, mset_same, Option.bind_some, List.length_map, Prod.mk.injEq, at0, at1, at2, at3, ix30, ix31, ix32, ix20, ix21, ix10, isi_ii, isi_ib, isi_ll, isi_bb, isi_ss, isi_tt, isi_is, isi_si, Bool.not_true, Bool.not_false]
  refine ⟨by omega, by omega, ?_⟩
  rw [Int.toNat_natCast]
  obtain ⟨P, hP⟩ : ∃ P : Nat → DSt → M → Prop, ∀ j r m', P j r m' ↔ ∃ cs : List Int, cs.length = j ∧ (∀ t, t < j → ∃ x, IsLow z t x ∧ cs[t]? = some (s * x)) ∧ m' = mset m b (.lst (cs.map D.int)) ∧ ∃ o4, r = [some (.str z), some (.int s), some (.int (z.length : Nat)), some (.ref b), o4, none] := ⟨_, fun _ _ _ => Iff.rfl⟩
  refine ⟨P, (hP _ _ _).mpr ⟨[], rfl, fun t h => absurd h (Nat.not_lt_zero _), rfl, _, rfl⟩, ?_, ?_⟩
  · intro j d r m' hd hp
    obtain ⟨cs, hl, hcs, rfl, o4, rfl⟩ := (hP _ _ _).mp hp
    obtain ⟨rfl, hj⟩ := rngD_at hd
    have hj2 : (j : Nat) < 2 ^ 200 := Nat.lt_of_lt_of_le (show j < 2 ^ 5 by omega) (Nat.pow_le_pow_right (by omega) (by omega))
    try simp only [dIfS, dTest, dOp, dVar, dC, dCB, daCons, daNil, dSet, dRet, dNext, dDrop, dAsg, dPar, dAug, dAddI, dBreak, dCont, dRetN, slot, dLen, dCmpI, dSub, dAdd, dMul, dDiv, dMod, dPow, dNeg, dUn, dIx, dInt1, dAbs, dChain, dAnd, dOr, dNot, dAndV, dOrV, dNotV, dTru, dTruB, dIf, dTup, dLst, mkL, dSlice, dSl, doNone, doSome, dSum, dAll, dAny, dList, dTuple, dMax, dMin, eq_ii, ne_ii, eq_ss, ne_ss, eq_bb, ne_bb, eq_nn, ne_nn, dIsN, dNotN, dIsB, dNotB, gN, gT, gsNil, gsCons, gSet, dBM, dAppend, dClear, dFld, dFldS, dProp, dCall, dMeth, dMake, dCallO, dFor, dLc, diR1, diR2, diL, diT, diRv, diS, diE, dFmt, dFStr, dJs, dCallN, dFrzE, frz_l, in_ss, notin_ss, drR1, drR2, dListR, dRaise, dRaise0, dTryAs, dTry, dXf, dAddO, dInO, isL, insOf, Option.some.injEq, List.cons.injEq, D.int.injEq, D.bl.injEq, D.str.injEq, D.lst.injEq, D.tup.injEq, D.ref.injEq, MO.lst.injEq, MO.ins.injEq, mset_mset, and_true, true_and, and_self, and_assoc, exists_eq_left', exists_eq_left, exists_and_left, exists_and_right, exists_eq', List.set_cons_zero, List.set_cons_succ, decide_eq_true_eq, sqOf, lsOf, List.length_cons, List.length_nil, sizeLine_eq, List.append_nil, List.cons_append, List.nil_append, if_true, if_false, Bool.false_eq_true, reduceCtorEq, reduceIte, Nat.reduceAdd, Nat.reduceLeDiff, mset_same, Option.bind_some, List.length_map, Prod.mk.injEq, at0, at1, at2, at3, ix30, ix31, ix32, ix20, ix21, ix10, isi_ii, isi_ib, isi_ll, isi_bb, isi_ss, isi_tt, isi_is, isi_si, Bool.not_true, Bool.not_false]
    refine ⟨by omega, by omega, ?_⟩
    rw [Int.toNat_natCast]
    refine lc_rng (fun k => .int (opn z k j)) (by rw [sizeLine_eq]; omega) (fun k hk Q' q' => ?_) ?_
    · simp only [wipeD]
      try simp only [dIfS, dTest, dOp, dVar, dC, dCB, daCons, daNil, dSet, dRet, dNext, dDrop, dAsg, dPar, dAug, dAddI, dBreak, dCont, dRetN, slot, dLen, dCmpI, dSub, dAdd, dMul, dDiv, dMod, dPow, dNeg, dUn, dIx, dInt1, dAbs, dChain, dAnd, dOr, dNot, dAndV, dOrV, dNotV, dTru, dTruB, dIf, dTup, dLst, mkL, dSlice, dSl, doNone, doSome, dSum, dAll, dAny, dList, dTuple, dMax, dMin, eq_ii, ne_ii, eq_ss, ne_ss, eq_bb, ne_bb, eq_nn, ne_nn, dIsN, dNotN, dIsB, dNotB, gN, gT, gsNil, gsCons, gSet, dBM, dAppend, dClear, dFld, dFldS, dProp, dCall, dMeth, dMake, dCallO, dFor, dLc, diR1, diR2, diL, diT, diRv, diS, diE, dFmt, dFStr, dJs, dCallN, dFrzE, frz_l, in_ss, notin_ss, drR1, drR2, dListR, dRaise, dRaise0, dTryAs, dTry, dXf, dAddO, dInO, isL, insOf, Option.some.injEq, List.cons.injEq, D.int.injEq, D.bl.injEq, D.str.injEq, D.lst.injEq, D.tup.injEq, D.ref.injEq, MO.lst.injEq, MO.ins.injEq, mset_mset, and_true, true_and, and_self, and_assoc, exists_eq_left', exists_eq_left, exists_and_left, exists_and_right, exists_eq', List.set_cons_zero, List.set_cons_succ, decide_eq_true_eq, sqOf, lsOf, List.length_cons, List.length_nil, sizeLine_eq, List.append_nil, List.cons_append, List.nil_append, if_true, if_false, Bool.false_eq_true, reduceCtorEq, reduceIte, Nat.reduceAdd, Nat.reduceLeDiff, mset_same, Option.bind_some, List.length_map, Prod.mk.injEq, at0, at1, at2, at3, ix30, ix31, ix32, ix20, ix21, ix10, isi_ii, isi_ib, isi_ll, isi_bb, isi_ss, isi_tt, isi_is, isi_si, Bool.not_true, Bool.not_false]
      exact ⟨z, k, j, by simp, hc, by omega, hj2, q'⟩
    try simp only [dIfS, dTest, dOp, dVar, dC, dCB, daCons, daNil, dSet, dRet, dNext, dDrop, dAsg, dPar, dAug, dAddI, dBreak, dCont, dRetN, slot, dLen, dCmpI, dSub, dAdd, dMul, dDiv, dMod, dPow, dNeg, dUn, dIx, dInt1, dAbs, dChain, dAnd, dOr, dNot, dAndV, dOrV, dNotV, dTru, dTruB, dIf, dTup, dLst, mkL, dSlice, dSl, doNone, doSome, dSum, dAll, dAny, dList, dTuple, dMax, dMin, eq_ii, ne_ii, eq_ss, ne_ss, eq_bb, ne_bb, eq_nn, ne_nn, dIsN, dNotN, dIsB, dNotB, gN, gT, gsNil, gsCons, gSet, dBM, dAppend, dClear, dFld, dFldS, dProp, dCall, dMeth, dMake, dCallO, dFor, dLc, diR1, diR2, diL, diT, diRv, diS, diE, dFmt, dFStr, dJs, dCallN, dFrzE, frz_l, in_ss, notin_ss, drR1, drR2, dListR, dRaise, dRaise0, dTryAs, dTry, dXf, dAddO, dInO, isL, insOf, Option.some.injEq, List.cons.injEq, D.int.injEq, D.bl.injEq, D.str.injEq, D.lst.injEq, D.tup.injEq, D.ref.injEq, MO.lst.injEq, MO.ins.injEq, mset_mset, and_true, true_and, and_self, and_assoc, exists_eq_left', exists_eq_left, exists_and_left, exists_and_right, exists_eq', List.set_cons_zero, List.set_cons_succ, decide_eq_true_eq, sqOf, lsOf, List.length_cons, List.length_nil, sizeLine_eq, List.append_nil, List.cons_append, List.nil_append, if_true, if_false, Bool.false_eq_true, reduceCtorEq, reduceIte, Nat.reduceAdd, Nat.reduceLeDiff, mset_same, Option.bind_some, List.length_map, Prod.mk.injEq, at0, at1, at2, at3, ix30, ix31, ix32, ix20, ix21, ix10, isi_ii, isi_ib, isi_ll, isi_bb, isi_ss, isi_tt, isi_is, isi_si, Bool.not_true, Bool.not_false]
    refine ⟨(List.range z.length).map fun k => opn z k j, by rw [List.map_map]; rfl, by simp; omega, fun k hk hmin => ⟨mul_smallL (by omega), by omega, (hP _ _ _).mpr ⟨cs ++ [s * k], by simp [hl], fun t ht => ?_, by simp, _, rfl⟩⟩⟩
    by_cases e : t = j
    · subst e
      obtain ⟨b2, hb2, rfl⟩ := List.mem_map.mp hk
      refine ⟨_, ⟨⟨b2, List.mem_range.mp hb2, rfl⟩, fun c hc2 => hmin _ (List.mem_map_of_mem (List.mem_range.mpr hc2))⟩, ?_⟩
      rw [List.getElem?_append_right (by omega), hl]
      simp
    · obtain ⟨x, h1, h2⟩ := hcs t (by omega)
      exact ⟨x, h1, by rw [List.getElem?_append_left (by omega)]; exact h2⟩
  intro r m' hp
  obtain ⟨cs, hl, hcs, rfl, o4, rfl⟩ := (hP _ _ _).mp hp
  rw [rngD_len] at hl hcs
  refine ⟨b, _, rfl, mset_same, ?_⟩
  rw [mdel_mset hb]
  try simp only [dIfS, dTest, dOp, dVar, dC, dCB, daCons, daNil, dSet, dRet, dNext, dDrop, dAsg, dPar, dAug, dAddI, dBreak, dCont, dRetN, slot, dLen, dCmpI, dSub, dAdd, dMul, dDiv, dMod, dPow, dNeg, dUn, dIx, dInt1, dAbs, dChain, dAnd, dOr, dNot, dAndV, dOrV, dNotV, dTru, dTruB, dIf, dTup, dLst, mkL, dSlice, dSl, doNone, doSome, dSum, dAll, dAny, dList, dTuple, dMax, dMin, eq_ii, ne_ii, eq_ss, ne_ss, eq_bb, ne_bb, eq_nn, ne_nn, dIsN, dNotN, dIsB, dNotB, gN, gT, gsNil, gsCons, gSet, dBM, dAppend, dClear, dFld, dFldS, dProp, dCall, dMeth, dMake, dCallO, dFor, dLc, diR1, diR2, diL, diT, diRv, diS, diE, dFmt, dFStr, dJs, dCallN, dFrzE, frz_l, in_ss, notin_ss, drR1, drR2, dListR, dRaise, dRaise0, dTryAs, dTry, dXf, dAddO, dInO, isL, insOf, Option.some.injEq, List.cons.injEq, D.int.injEq, D.bl.injEq, D.str.injEq, D.lst.injEq, D.tup.injEq, D.ref.injEq, MO.lst.injEq, MO.ins.injEq, mset_mset, and_true, true_and, and_self, and_assoc, exists_eq_left', exists_eq_left, exists_and_left, exists_and_right, exists_eq', List.set_cons_zero, List.set_cons_succ, decide_eq_true_eq, sqOf, lsOf, List.length_cons, List.length_nil, sizeLine_eq, List.append_nil, List.cons_append, List.nil_append, if_true, if_false, Bool.false_eq_true, reduceCtorEq, reduceIte, Nat.reduceAdd, Nat.reduceLeDiff, mset_same, Option.bind_some, List.length_map, Prod.mk.injEq, at0, at1, at2, at3, ix30, ix31, ix32, ix20, ix21, ix10, isi_ii, isi_ib, isi_ll, isi_bb, isi_ss, isi_tt, isi_is, isi_si, Bool.not_true, Bool.not_false]
  have hcnt := cnt_le z
  have hg : (s * cntS z).natAbs ≤ 1000000 := by
    have h1 : s * cntS z ≤ 99 * 25 := Int.mul_le_mul s2 (by omega) (by omega) (by omega)
    have h0 : 0 ≤ s * cntS z := Int.mul_nonneg (by omega) (by omega)
    omega
  refine ⟨⟨z, rfl⟩, z, _, rfl, rfl, ?_⟩
  show DL.MulOk _ (cntS z) ∧ _
  refine ⟨mul_small (by omega), ?_⟩
  intro x hx
  refine init_row (g := s * cntS z) (by omega) (by omega) (by omega) (sz_small hg) fun L2 R2 S2 nf h1 h2 h3 => ?_
  rw [Int.toNat_natCast] at nf ⊢
  try simp only [dIfS, dTest, dOp, dVar, dC, dCB, daCons, daNil, dSet, dRet, dNext, dDrop, dAsg, dPar, dAug, dAddI, dBreak, dCont, dRetN, slot, dLen, dCmpI, dSub, dAdd, dMul, dDiv, dMod, dPow, dNeg, dUn, dIx, dInt1, dAbs, dChain, dAnd, dOr, dNot, dAndV, dOrV, dNotV, dTru, dTruB, dIf, dTup, dLst, mkL, dSlice, dSl, doNone, doSome, dSum, dAll, dAny, dList, dTuple, dMax, dMin, eq_ii, ne_ii, eq_ss, ne_ss, eq_bb, ne_bb, eq_nn, ne_nn, dIsN, dNotN, dIsB, dNotB, gN, gT, gsNil, gsCons, gSet, dBM, dAppend, dClear, dFld, dFldS, dProp, dCall, dMeth, dMake, dCallO, dFor, dLc, diR1, diR2, diL, diT, diRv, diS, diE, dFmt, dFStr, dJs, dCallN, dFrzE, frz_l, in_ss, notin_ss, drR1, drR2, dListR, dRaise, dRaise0, dTryAs, dTry, dXf, dAddO, dInO, isL, insOf, Option.some.injEq, List.cons.injEq, D.int.injEq, D.bl.injEq, D.str.injEq, D.lst.injEq, D.tup.injEq, D.ref.injEq, MO.lst.injEq, MO.ins.injEq, mset_mset, and_true, true_and, and_self, and_assoc, exists_eq_left', exists_eq_left, exists_and_left, exists_and_right, exists_eq', List.set_cons_zero, List.set_cons_succ, decide_eq_true_eq, sqOf, lsOf, List.length_cons, List.length_nil, sizeLine_eq, List.append_nil, List.cons_append, List.nil_append, if_true, if_false, Bool.false_eq_true, reduceCtorEq, reduceIte, Nat.reduceAdd, Nat.reduceLeDiff, mset_same, Option.bind_some, List.length_map, Prod.mk.injEq, at0, at1, at2, at3, ix30, ix31, ix32, ix20, ix21, ix10, isi_ii, isi_ib, isi_ll, isi_bb, isi_ss, isi_tt, isi_is, isi_si, Bool.not_true, Bool.not_false, mdel_mset hx]
  exact q cs L2 R2 S2 hl hcs nf (by omega) (by omega) h3
theorem k_cal : PyData.strOk ("calendar" : Str) = true := by decide +kernel
theorem pure_law_worst {K : Fr0} {mg : Str → Option Value} (T : Txt K mg) (ds : List D) (m : M) (Q : D → M → Prop) (E : XD → M → Prop) (h : sp_law_worst K ds m Q E) : t_law_worst K (fun x _ m => E x m) { nx := fun _ m => Q .non m, rt := Q } (startD nm_law_worst ds) m := by
  obtain ⟨z, t, rfl, hz, ht, qc, q⟩ := h
  show t_law_worst K _ _ [some (.str z), some (.int t), none] m
  unfold t_law_worst
  try simp only [dIfS, dTest, dOp, dVar, dC, dCB, daCons, daNil, dSet, dRet, dNext, dDrop, dAsg, dPar, dAug, dAddI, dBreak, dCont, dRetN, slot, dLen, dCmpI, dSub, dAdd, dMul, dDiv, dMod, dPow, dNeg, dUn, dIx, dInt1, dAbs, dChain, dAnd, dOr, dNot, dAndV, dOrV, dNotV, dTru, dTruB, dIf, dTup, dLst, mkL, dSlice, dSl, doNone, doSome, dSum, dAll, dAny, dList, dTuple, dMax, dMin, eq_ii, ne_ii, eq_ss, ne_ss, eq_bb, ne_bb, eq_nn, ne_nn, dIsN, dNotN, dIsB, dNotB, gN, gT, gsNil, gsCons, gSet, dBM, dAppend, dClear, dFld, dFldS, dProp, dCall, dMeth, dMake, dCallO, dFor, dLc, diR1, diR2, diL, diT, diRv, diS, diE, dFmt, dFStr, dJs, dCallN, dFrzE, frz_l, in_ss, notin_ss, drR1, drR2, dListR, dRaise, dRaise0, dTryAs, dTry, dXf, dAddO, dInO, isL, insOf, Option.some.injEq, List.cons.injEq, D.int.injEq, D.bl.injEq, D.str.injEq, D.lst.injEq, D.tup.injEq, D.ref.injEq, MO.lst.injEq, MO.ins.injEq, mset_mset, and_true, true_and, and_self, and_assoc, exists_eq_left', exists_eq_left, exists_and_left, exists_and_right, exists_eq', List.set_cons_zero, List.set_cons_succ, decide_eq_true_eq, sqOf, lsOf, List.length_cons, List.length_nil, sizeLine_eq, List.append_nil, List.cons_append, List.nil_append, if_true, if_false, Bool.false_eq_true, reduceCtorEq, reduceIte, Nat.reduceAdd, Nat.reduceLeDiff, mset_same, Option.bind_some, List.length_map, Prod.mk.injEq, at0, at1, at2, at3, ix30, ix31, ix32, ix20, ix21, ix10, isi_ii, isi_ib, isi_ll, isi_bb, isi_ss, isi_tt, isi_is, isi_si, Bool.not_true, Bool.not_false]
  refine ⟨z, t, rfl, hz, ht, fun hc => ?_, q⟩
  refine ⟨true, T.xm_BadCalendar_BadCalendar, fun _ a' d' ha' => ?_, nofun⟩
  try simp only [dIfS, dTest, dOp, dVar, dC, dCB, daCons, daNil, dSet, dRet, dNext, dDrop, dAsg, dPar, dAug, dAddI, dBreak, dCont, dRetN, slot, dLen, dCmpI, dSub, dAdd, dMul, dDiv, dMod, dPow, dNeg, dUn, dIx, dInt1, dAbs, dChain, dAnd, dOr, dNot, dAndV, dOrV, dNotV, dTru, dTruB, dIf, dTup, dLst, mkL, dSlice, dSl, doNone, doSome, dSum, dAll, dAny, dList, dTuple, dMax, dMin, eq_ii, ne_ii, eq_ss, ne_ss, eq_bb, ne_bb, eq_nn, ne_nn, dIsN, dNotN, dIsB, dNotB, gN, gT, gsNil, gsCons, gSet, dBM, dAppend, dClear, dFld, dFldS, dProp, dCall, dMeth, dMake, dCallO, dFor, dLc, diR1, diR2, diL, diT, diRv, diS, diE, dFmt, dFStr, dJs, dCallN, dFrzE, frz_l, in_ss, notin_ss, drR1, drR2, dListR, dRaise, dRaise0, dTryAs, dTry, dXf, dAddO, dInO, isL, insOf, Option.some.injEq, List.cons.injEq, D.int.injEq, D.bl.injEq, D.str.injEq, D.lst.injEq, D.tup.injEq, D.ref.injEq, MO.lst.injEq, MO.ins.injEq, mset_mset, and_true, true_and, and_self, and_assoc, exists_eq_left', exists_eq_left, exists_and_left, exists_and_right, exists_eq', List.set_cons_zero, List.set_cons_succ, decide_eq_true_eq, sqOf, lsOf, List.length_cons, List.length_nil, sizeLine_eq, List.append_nil, List.cons_append, List.nil_append, if_true, if_false, Bool.false_eq_true, reduceCtorEq, reduceIte, Nat.reduceAdd, Nat.reduceLeDiff, mset_same, Option.bind_some, List.length_map, Prod.mk.injEq, at0, at1, at2, at3, ix30, ix31, ix32, ix20, ix21, ix10, isi_ii, isi_ib, isi_ll, isi_bb, isi_ss, isi_tt, isi_is, isi_si, Bool.not_true, Bool.not_false, badC]
  exact ⟨_, rfl, _, rfl, qc hc⟩
theorem pure_law_outcome {K : Fr0} {mg : Str → Option Value} (T : Txt K mg) (ds : List D) (m : M) (Q : D → M → Prop) (E : XD → M → Prop) (h : sp_law_outcome K ds m Q E) : t_law_outcome K (fun x _ m => E x m) { nx := fun _ m => Q .non m, rt := Q } (startD nm_law_outcome ds) m := by
  obtain ⟨z, s, rfl, hz, qc, qs, q⟩ := h
  show t_law_outcome K _ _ [some (.str z), some (.int s), none] m
  unfold t_law_outcome
  rw [dTryL]
  generalize hW : dCatchL K _ _ _ = W
  have HC : calB z = false → W (badC K z) [some (.str z), some (.int s), none] m := by
    intro hc
    subst hW
    simp only [dCatchL, dInS]
    refine ⟨true, T.xm_BadCalendar_BadCalendar, fun _ a' d' ha' => ?_, nofun⟩
    try simp only [dIfS, dTest, dOp, dVar, dC, dCB, daCons, daNil, dSet, dRet, dNext, dDrop, dAsg, dPar, dAug, dAddI, dBreak, dCont, dRetN, slot, dLen, dCmpI, dSub, dAdd, dMul, dDiv, dMod, dPow, dNeg, dUn, dIx, dInt1, dAbs, dChain, dAnd, dOr, dNot, dAndV, dOrV, dNotV, dTru, dTruB, dIf, dTup, dLst, mkL, dSlice, dSl, doNone, doSome, dSum, dAll, dAny, dList, dTuple, dMax, dMin, eq_ii, ne_ii, eq_ss, ne_ss, eq_bb, ne_bb, eq_nn, ne_nn, dIsN, dNotN, dIsB, dNotB, gN, gT, gsNil, gsCons, gSet, dBM, dAppend, dClear, dFld, dFldS, dProp, dCall, dMeth, dMake, dCallO, dFor, dLc, diR1, diR2, diL, diT, diRv, diS, diE, dFmt, dFStr, dJs, dCallN, dFrzE, frz_l, in_ss, notin_ss, drR1, drR2, dListR, dRaise, dRaise0, dTryAs, dTry, dXf, dAddO, dInO, isL, insOf, Option.some.injEq, List.cons.injEq, D.int.injEq, D.bl.injEq, D.str.injEq, D.lst.injEq, D.tup.injEq, D.ref.injEq, MO.lst.injEq, MO.ins.injEq, mset_mset, and_true, true_and, and_self, and_assoc, exists_eq_left', exists_eq_left, exists_and_left, exists_and_right, exists_eq', List.set_cons_zero, List.set_cons_succ, decide_eq_true_eq, sqOf, lsOf, List.length_cons, List.length_nil, sizeLine_eq, List.append_nil, List.cons_append, List.nil_append, if_true, if_false, Bool.false_eq_true, reduceCtorEq, reduceIte, Nat.reduceAdd, Nat.reduceLeDiff, mset_same, Option.bind_some, List.length_map, Prod.mk.injEq, at0, at1, at2, at3, ix30, ix31, ix32, ix20, ix21, ix10, isi_ii, isi_ib, isi_ll, isi_bb, isi_ss, isi_tt, isi_is, isi_si, Bool.not_true, Bool.not_false, badC, dCut]
    exact ⟨_, rfl, _, rfl, qc hc⟩
  have HS : calB z = true → ¬ (1 ≤ s ∧ s ≤ 99) → W (badS K s) [some (.str z), some (.int s), none] m := by
    intro hc hs
    subst hW
    simp only [dCatchL, dInS]
    refine ⟨false, T.xm_OutOfRange_BadCalendar, nofun, fun _ => ⟨true, T.xm_OutOfRange_OutOfRange, fun _ a' d' ha' => ?_, nofun⟩⟩
    try simp only [dIfS, dTest, dOp, dVar, dC, dCB, daCons, daNil, dSet, dRet, dNext, dDrop, dAsg, dPar, dAug, dAddI, dBreak, dCont, dRetN, slot, dLen, dCmpI, dSub, dAdd, dMul, dDiv, dMod, dPow, dNeg, dUn, dIx, dInt1, dAbs, dChain, dAnd, dOr, dNot, dAndV, dOrV, dNotV, dTru, dTruB, dIf, dTup, dLst, mkL, dSlice, dSl, doNone, doSome, dSum, dAll, dAny, dList, dTuple, dMax, dMin, eq_ii, ne_ii, eq_ss, ne_ss, eq_bb, ne_bb, eq_nn, ne_nn, dIsN, dNotN, dIsB, dNotB, gN, gT, gsNil, gsCons, gSet, dBM, dAppend, dClear, dFld, dFldS, dProp, dCall, dMeth, dMake, dCallO, dFor, dLc, diR1, diR2, diL, diT, diRv, diS, diE, dFmt, dFStr, dJs, dCallN, dFrzE, frz_l, in_ss, notin_ss, drR1, drR2, dListR, dRaise, dRaise0, dTryAs, dTry, dXf, dAddO, dInO, isL, insOf, Option.some.injEq, List.cons.injEq, D.int.injEq, D.bl.injEq, D.str.injEq, D.lst.injEq, D.tup.injEq, D.ref.injEq, MO.lst.injEq, MO.ins.injEq, mset_mset, and_true, true_and, and_self, and_assoc, exists_eq_left', exists_eq_left, exists_and_left, exists_and_right, exists_eq', List.set_cons_zero, List.set_cons_succ, decide_eq_true_eq, sqOf, lsOf, List.length_cons, List.length_nil, sizeLine_eq, List.append_nil, List.cons_append, List.nil_append, if_true, if_false, Bool.false_eq_true, reduceCtorEq, reduceIte, Nat.reduceAdd, Nat.reduceLeDiff, mset_same, Option.bind_some, List.length_map, Prod.mk.injEq, at0, at1, at2, at3, ix30, ix31, ix32, ix20, ix21, ix10, isi_ii, isi_ib, isi_ll, isi_bb, isi_ss, isi_tt, isi_is, isi_si, Bool.not_true, Bool.not_false, badS, dCut]
    exact ⟨_, rfl, _, rfl, _, rfl, _, rfl, qs hc hs⟩
  try simp only [dIfS, dTest, dOp, dVar, dC, dCB, daCons, daNil, dSet, dRet, dNext, dDrop, dAsg, dPar, dAug, dAddI, dBreak, dCont, dRetN, slot, dLen, dCmpI, dSub, dAdd, dMul, dDiv, dMod, dPow, dNeg, dUn, dIx, dInt1, dAbs, dChain, dAnd, dOr, dNot, dAndV, dOrV, dNotV, dTru, dTruB, dIf, dTup, dLst, mkL, dSlice, dSl, doNone, doSome, dSum, dAll, dAny, dList, dTuple, dMax, dMin, eq_ii, ne_ii, eq_ss, ne_ss, eq_bb, ne_bb, eq_nn, ne_nn, dIsN, dNotN, dIsB, dNotB, gN, gT, gsNil, gsCons, gSet, dBM, dAppend, dClear, dFld, dFldS, dProp, dCall, dMeth, dMake, dCallO, dFor, dLc, diR1, diR2, diL, diT, diRv, diS, diE, dFmt, dFStr, dJs, dCallN, dFrzE, frz_l, in_ss, notin_ss, drR1, drR2, dListR, dRaise, dRaise0, dTryAs, dTry, dXf, dAddO, dInO, isL, insOf, Option.some.injEq, List.cons.injEq, D.int.injEq, D.bl.injEq, D.str.injEq, D.lst.injEq, D.tup.injEq, D.ref.injEq, MO.lst.injEq, MO.ins.injEq, mset_mset, and_true, true_and, and_self, and_assoc, exists_eq_left', exists_eq_left, exists_and_left, exists_and_right, exists_eq', List.set_cons_zero, List.set_cons_succ, decide_eq_true_eq, sqOf, lsOf, List.length_cons, List.length_nil, sizeLine_eq, List.append_nil, List.cons_append, List.nil_append, if_true, if_false, Bool.false_eq_true, reduceCtorEq, reduceIte, Nat.reduceAdd, Nat.reduceLeDiff, mset_same, Option.bind_some, List.length_map, Prod.mk.injEq, at0, at1, at2, at3, ix30, ix31, ix32, ix20, ix21, ix10, isi_ii, isi_ib, isi_ll, isi_bb, isi_ss, isi_tt, isi_is, isi_si, Bool.not_true, Bool.not_false]
  exact ⟨z, s, rfl, hz, HC, HS, q⟩
theorem app_l (a b : Str) : (a ++ b).cps.toList = a.cps.toList ++ b.cps.toList := by
  show (a.cps ++ b.cps).toList = _
  simp
theorem len_l (a : Str) : a.length = a.cps.toList.length := by
  rw [Array.length_toList]
  rfl
theorem cutS_l (z : Str) (lo hi : Option Int) : (cutS z lo hi).cps.toList = DL.cutD z.cps.toList lo hi := by
  unfold cutS DL.cutD
  simp [len_l]
theorem in1 (z : Str) : inS z "1" = decide (49 ∈ z.cps.toList) := by
  unfold inS
  have := PySem.StrLaws.found_one z 49
  rw [show (("1" : String) : Str) = ⟨#[49]⟩ from s1_eq]
  first | exact this | exact this.symm
def calL (l : List Nat) : Bool := decide (1 ≤ l.length ∧ l.length ≤ 24) && decide (49 ∈ l) && l.all fun c => c == 48 || c == 49
theorem cal_l (z : Str) : calB z = calL z.cps.toList := by
  unfold calB calL
  rw [in1, len_l]
/-- a text put in place of a sign -/
theorem put_l (z y : Str) {p : Int} (hp : 0 ≤ p) : (cutS z none (some p)).length ≤ z.length ∧ (cutS z (some (p + 1)) none).length ≤ z.length ∧ (cutS z none (some p) ++ y ++ cutS z (some (p + 1)) none).cps.toList = z.cps.toList.take p.toNat ++ y.cps.toList ++ z.cps.toList.drop (p.toNat + 1) := by
  refine ⟨cutS_length _ _ _, cutS_length _ _ _, ?_⟩
  rw [app_l, app_l, cutS_l, cutS_l, cut_toI _ hp, cut_fromI _ (by omega), show (p + 1).toNat = p.toNat + 1 by omega]
theorem pure_law_any {K : Fr0} {mg : Str → Option Value} (T : Txt K mg) (ds : List D) (m : M) (Q : D → M → Prop) (E : XD → M → Prop) (h : sp_law_any K ds m Q E) : t_law_any K (fun x _ m => E x m) { nx := fun _ m => Q .non m, rt := Q } (startD nm_law_any ds) m := by
  obtain ⟨a, c, v, k, rfl, ha, ⟨k0, k1⟩, q⟩ := h
  show t_law_any K _ _ [some (.ref a), none, none, none, none, none] m
  unfold t_law_any
  try simp only [dSeq]
  try simp only [dIfS, dTest, dOp, dVar, dC, dCB, daCons, daNil, dSet, dRet, dNext, dDrop, dAsg, dPar, dAug, dAddI, dBreak, dCont, dRetN, slot, dLen, dCmpI, dSub, dAdd, dMul, dDiv, dMod, dPow, dNeg, dUn, dIx, dInt1, dAbs, dChain, dAnd, dOr, dNot, dAndV, dOrV, dNotV, dTru, dTruB, dIf, dTup, dLst, mkL, dSlice, dSl, doNone, doSome, dSum, dAll, dAny, dList, dTuple, dMax, dMin, eq_ii, ne_ii, eq_ss, ne_ss, eq_bb, ne_bb, eq_nn, ne_nn, dIsN, dNotN, dIsB, dNotB, gN, gT, gsNil, gsCons, gSet, dBM, dAppend, dClear, dFld, dFldS, dProp, dCall, dMeth, dMake, dCallO, dFor, dLc, diR1, diR2, diL, diT, diRv, diS, diE, dFmt, dFStr, dJs, dCallN, dFrzE, frz_l, in_ss, notin_ss, drR1, drR2, dListR, dRaise, dRaise0, dTryAs, dTry, dXf, dAddO, dInO, isL, insOf, Option.some.injEq, List.cons.injEq, D.int.injEq, D.bl.injEq, D.str.injEq, D.lst.injEq, D.tup.injEq, D.ref.injEq, MO.lst.injEq, MO.ins.injEq, mset_mset, and_true, true_and, and_self, and_assoc, exists_eq_left', exists_eq_left, exists_and_left, exists_and_right, exists_eq', List.set_cons_zero, List.set_cons_succ, decide_eq_true_eq, sqOf, lsOf, List.length_cons, List.length_nil, sizeLine_eq, List.append_nil, List.cons_append, List.nil_append, if_true, if_false, Bool.false_eq_true, reduceCtorEq, reduceIte, Nat.reduceAdd, Nat.reduceLeDiff, mset_same, Option.bind_some, List.length_map, Prod.mk.injEq, at0, at1, at2, at3, ix30, ix31, ix32, ix20, ix21, ix10, isi_ii, isi_ib, isi_ll, isi_bb, isi_ss, isi_tt, isi_is, isi_si, Bool.not_true, Bool.not_false]
  refine draw_k (by omega) (by omega) (by omega) (by omega) (fun n v1 a1 b1 => ?_) ha
  try simp only [dSeq]
  try simp only [dIfS, dTest, dOp, dVar, dC, dCB, daCons, daNil, dSet, dRet, dNext, dDrop, dAsg, dPar, dAug, dAddI, dBreak, dCont, dRetN, slot, dLen, dCmpI, dSub, dAdd, dMul, dDiv, dMod, dPow, dNeg, dUn, dIx, dInt1, dAbs, dChain, dAnd, dOr, dNot, dAndV, dOrV, dNotV, dTru, dTruB, dIf, dTup, dLst, mkL, dSlice, dSl, doNone, doSome, dSum, dAll, dAny, dList, dTuple, dMax, dMin, eq_ii, ne_ii, eq_ss, ne_ss, eq_bb, ne_bb, eq_nn, ne_nn, dIsN, dNotN, dIsB, dNotB, gN, gT, gsNil, gsCons, gSet, dBM, dAppend, dClear, dFld, dFldS, dProp, dCall, dMeth, dMake, dCallO, dFor, dLc, diR1, diR2, diL, diT, diRv, diS, diE, dFmt, dFStr, dJs, dCallN, dFrzE, frz_l, in_ss, notin_ss, drR1, drR2, dListR, dRaise, dRaise0, dTryAs, dTry, dXf, dAddO, dInO, isL, insOf, Option.some.injEq, List.cons.injEq, D.int.injEq, D.bl.injEq, D.str.injEq, D.lst.injEq, D.tup.injEq, D.ref.injEq, MO.lst.injEq, MO.ins.injEq, mset_mset, and_true, true_and, and_self, and_assoc, exists_eq_left', exists_eq_left, exists_and_left, exists_and_right, exists_eq', List.set_cons_zero, List.set_cons_succ, decide_eq_true_eq, sqOf, lsOf, List.length_cons, List.length_nil, sizeLine_eq, List.append_nil, List.cons_append, List.nil_append, if_true, if_false, Bool.false_eq_true, reduceCtorEq, reduceIte, Nat.reduceAdd, Nat.reduceLeDiff, mset_same, Option.bind_some, List.length_map, Prod.mk.injEq, at0, at1, at2, at3, ix30, ix31, ix32, ix20, ix21, ix10, isi_ii, isi_ib, isi_ll, isi_bb, isi_ss, isi_tt, isi_is, isi_si, Bool.not_true, Bool.not_false]
  refine draw_k (by omega) (by omega) (by omega) (by omega) (fun sh v2 a2 b2 => ?_) mset_same
  rw [mset_mset]
  try simp only [dSeq]
  try simp only [dIfS, dTest, dOp, dVar, dC, dCB, daCons, daNil, dSet, dRet, dNext, dDrop, dAsg, dPar, dAug, dAddI, dBreak, dCont, dRetN, slot, dLen, dCmpI, dSub, dAdd, dMul, dDiv, dMod, dPow, dNeg, dUn, dIx, dInt1, dAbs, dChain, dAnd, dOr, dNot, dAndV, dOrV, dNotV, dTru, dTruB, dIf, dTup, dLst, mkL, dSlice, dSl, doNone, doSome, dSum, dAll, dAny, dList, dTuple, dMax, dMin, eq_ii, ne_ii, eq_ss, ne_ss, eq_bb, ne_bb, eq_nn, ne_nn, dIsN, dNotN, dIsB, dNotB, gN, gT, gsNil, gsCons, gSet, dBM, dAppend, dClear, dFld, dFldS, dProp, dCall, dMeth, dMake, dCallO, dFor, dLc, diR1, diR2, diL, diT, diRv, diS, diE, dFmt, dFStr, dJs, dCallN, dFrzE, frz_l, in_ss, notin_ss, drR1, drR2, dListR, dRaise, dRaise0, dTryAs, dTry, dXf, dAddO, dInO, isL, insOf, Option.some.injEq, List.cons.injEq, D.int.injEq, D.bl.injEq, D.str.injEq, D.lst.injEq, D.tup.injEq, D.ref.injEq, MO.lst.injEq, MO.ins.injEq, mset_mset, and_true, true_and, and_self, and_assoc, exists_eq_left', exists_eq_left, exists_and_left, exists_and_right, exists_eq', List.set_cons_zero, List.set_cons_succ, decide_eq_true_eq, sqOf, lsOf, List.length_cons, List.length_nil, sizeLine_eq, List.append_nil, List.cons_append, List.nil_append, if_true, if_false, Bool.false_eq_true, reduceCtorEq, reduceIte, Nat.reduceAdd, Nat.reduceLeDiff, mset_same, Option.bind_some, List.length_map, Prod.mk.injEq, at0, at1, at2, at3, ix30, ix31, ix32, ix20, ix21, ix10, isi_ii, isi_ib, isi_ll, isi_bb, isi_ss, isi_tt, isi_is, isi_si, Bool.not_true, Bool.not_false]
  try simp only [dSeq]
  try simp only [dIfS, dTest, dOp, dVar, dC, dCB, daCons, daNil, dSet, dRet, dNext, dDrop, dAsg, dPar, dAug, dAddI, dBreak, dCont, dRetN, slot, dLen, dCmpI, dSub, dAdd, dMul, dDiv, dMod, dPow, dNeg, dUn, dIx, dInt1, dAbs, dChain, dAnd, dOr, dNot, dAndV, dOrV, dNotV, dTru, dTruB, dIf, dTup, dLst, mkL, dSlice, dSl, doNone, doSome, dSum, dAll, dAny, dList, dTuple, dMax, dMin, eq_ii, ne_ii, eq_ss, ne_ss, eq_bb, ne_bb, eq_nn, ne_nn, dIsN, dNotN, dIsB, dNotB, gN, gT, gsNil, gsCons, gSet, dBM, dAppend, dClear, dFld, dFldS, dProp, dCall, dMeth, dMake, dCallO, dFor, dLc, diR1, diR2, diL, diT, diRv, diS, diE, dFmt, dFStr, dJs, dCallN, dFrzE, frz_l, in_ss, notin_ss, drR1, drR2, dListR, dRaise, dRaise0, dTryAs, dTry, dXf, dAddO, dInO, isL, insOf, Option.some.injEq, List.cons.injEq, D.int.injEq, D.bl.injEq, D.str.injEq, D.lst.injEq, D.tup.injEq, D.ref.injEq, MO.lst.injEq, MO.ins.injEq, mset_mset, and_true, true_and, and_self, and_assoc, exists_eq_left', exists_eq_left, exists_and_left, exists_and_right, exists_eq', List.set_cons_zero, List.set_cons_succ, decide_eq_true_eq, sqOf, lsOf, List.length_cons, List.length_nil, sizeLine_eq, List.append_nil, List.cons_append, List.nil_append, if_true, if_false, Bool.false_eq_true, reduceCtorEq, reduceIte, Nat.reduceAdd, Nat.reduceLeDiff, mset_same, Option.bind_some, List.length_map, Prod.mk.injEq, at0, at1, at2, at3, ix30, ix31, ix32, ix20, ix21, ix10, isi_ii, isi_ib, isi_ll, isi_bb, isi_ss, isi_tt, isi_is, isi_si, Bool.not_true, Bool.not_false]
  refine ⟨by omega, by omega, ?_⟩
  obtain ⟨P, hP⟩ : ∃ P : Nat → DSt → M → Prop, ∀ j r m', P j r m' ↔ ∃ (z : Str) (v' k' : Int), z.cps.toList.length = j ∧ (z.cps.toList.all fun c => c == 48 || c == 49) = true ∧ 0 ≤ k' ∧ k' ≤ k + 2 + j ∧ m' = mset m a (pool c v' k') ∧ ∃ o4, r = [some (.ref a), some (.int (1 + n)), some (.int (1 + sh)), some (.str z), o4, none] := ⟨_, fun _ _ _ => Iff.rfl⟩
  refine ⟨P, (hP _ _ _).mpr ⟨Str.ofString "", v2, k + 1 + 1, rfl, rfl, by omega, by simp; omega, rfl, _, rfl⟩, ?_, ?_⟩
  · intro j d r m' hd hp
    obtain ⟨z, v', k', hl, hz, g0, g1, rfl, o4, rfl⟩ := (hP _ _ _).mp hp
    obtain ⟨rfl, hj⟩ := rngD_at hd
    have hj : j < 24 := by omega
    try simp only [dIfS, dTest, dOp, dVar, dC, dCB, daCons, daNil, dSet, dRet, dNext, dDrop, dAsg, dPar, dAug, dAddI, dBreak, dCont, dRetN, slot, dLen, dCmpI, dSub, dAdd, dMul, dDiv, dMod, dPow, dNeg, dUn, dIx, dInt1, dAbs, dChain, dAnd, dOr, dNot, dAndV, dOrV, dNotV, dTru, dTruB, dIf, dTup, dLst, mkL, dSlice, dSl, doNone, doSome, dSum, dAll, dAny, dList, dTuple, dMax, dMin, eq_ii, ne_ii, eq_ss, ne_ss, eq_bb, ne_bb, eq_nn, ne_nn, dIsN, dNotN, dIsB, dNotB, gN, gT, gsNil, gsCons, gSet, dBM, dAppend, dClear, dFld, dFldS, dProp, dCall, dMeth, dMake, dCallO, dFor, dLc, diR1, diR2, diL, diT, diRv, diS, diE, dFmt, dFStr, dJs, dCallN, dFrzE, frz_l, in_ss, notin_ss, drR1, drR2, dListR, dRaise, dRaise0, dTryAs, dTry, dXf, dAddO, dInO, isL, insOf, Option.some.injEq, List.cons.injEq, D.int.injEq, D.bl.injEq, D.str.injEq, D.lst.injEq, D.tup.injEq, D.ref.injEq, MO.lst.injEq, MO.ins.injEq, mset_mset, and_true, true_and, and_self, and_assoc, exists_eq_left', exists_eq_left, exists_and_left, exists_and_right, exists_eq', List.set_cons_zero, List.set_cons_succ, decide_eq_true_eq, sqOf, lsOf, List.length_cons, List.length_nil, sizeLine_eq, List.append_nil, List.cons_append, List.nil_append, if_true, if_false, Bool.false_eq_true, reduceCtorEq, reduceIte, Nat.reduceAdd, Nat.reduceLeDiff, mset_same, Option.bind_some, List.length_map, Prod.mk.injEq, at0, at1, at2, at3, ix30, ix31, ix32, ix20, ix21, ix10, isi_ii, isi_ib, isi_ll, isi_bb, isi_ss, isi_tt, isi_is, isi_si, Bool.not_true, Bool.not_false]
    refine draw_k (by omega) (by omega) (by omega) (by omega) (fun x v3 a3 b3 => ?_) mset_same
    rw [mset_mset]
    try simp only [dIfS, dTest, dOp, dVar, dC, dCB, daCons, daNil, dSet, dRet, dNext, dDrop, dAsg, dPar, dAug, dAddI, dBreak, dCont, dRetN, slot, dLen, dCmpI, dSub, dAdd, dMul, dDiv, dMod, dPow, dNeg, dUn, dIx, dInt1, dAbs, dChain, dAnd, dOr, dNot, dAndV, dOrV, dNotV, dTru, dTruB, dIf, dTup, dLst, mkL, dSlice, dSl, doNone, doSome, dSum, dAll, dAny, dList, dTuple, dMax, dMin, eq_ii, ne_ii, eq_ss, ne_ss, eq_bb, ne_bb, eq_nn, ne_nn, dIsN, dNotN, dIsB, dNotB, gN, gT, gsNil, gsCons, gSet, dBM, dAppend, dClear, dFld, dFldS, dProp, dCall, dMeth, dMake, dCallO, dFor, dLc, diR1, diR2, diL, diT, diRv, diS, diE, dFmt, dFStr, dJs, dCallN, dFrzE, frz_l, in_ss, notin_ss, drR1, drR2, dListR, dRaise, dRaise0, dTryAs, dTry, dXf, dAddO, dInO, isL, insOf, Option.some.injEq, List.cons.injEq, D.int.injEq, D.bl.injEq, D.str.injEq, D.lst.injEq, D.tup.injEq, D.ref.injEq, MO.lst.injEq, MO.ins.injEq, mset_mset, and_true, true_and, and_self, and_assoc, exists_eq_left', exists_eq_left, exists_and_left, exists_and_right, exists_eq', List.set_cons_zero, List.set_cons_succ, decide_eq_true_eq, sqOf, lsOf, List.length_cons, List.length_nil, sizeLine_eq, List.append_nil, List.cons_append, List.nil_append, if_true, if_false, Bool.false_eq_true, reduceCtorEq, reduceIte, Nat.reduceAdd, Nat.reduceLeDiff, mset_same, Option.bind_some, List.length_map, Prod.mk.injEq, at0, at1, at2, at3, ix30, ix31, ix32, ix20, ix21, ix10, isi_ii, isi_ib, isi_ll, isi_bb, isi_ss, isi_tt, isi_is, isi_si, Bool.not_true, Bool.not_false]
    obtain ⟨y, hy, hy2⟩ : ∃ y : Nat, atI (Str.ofString "01").cps.toList (if x < 1 + sh then 1 else 0) = some y ∧ (y == 48 || y == 49) = true := by
      by_cases hx : x < 1 + sh
      · rw [if_pos hx]
        exact ⟨49, by decide +kernel, rfl⟩
      · rw [if_neg hx]
        exact ⟨48, by decide +kernel, rfl⟩
    have hzl := len_l z
    refine ⟨by decide +kernel, y, hy, by rw [len_l ⟨#[y]⟩]; simp; omega, (hP _ _ _).mpr ⟨_, v3, k' + 1, ?_, ?_, by omega, by omega, rfl, _, rfl⟩⟩
    · rw [app_l]
      simp [hl]
    · rw [app_l, List.all_append, hz]
      simpa using hy2
  intro r m' hp
  obtain ⟨z, v', k', hl, hz, g0, g1, rfl, o4, rfl⟩ := (hP _ _ _).mp hp
  rw [rngD_len] at hl g1
  try simp only [dSeq]
  try simp only [dIfS, dTest, dOp, dVar, dC, dCB, daCons, daNil, dSet, dRet, dNext, dDrop, dAsg, dPar, dAug, dAddI, dBreak, dCont, dRetN, slot, dLen, dCmpI, dSub, dAdd, dMul, dDiv, dMod, dPow, dNeg, dUn, dIx, dInt1, dAbs, dChain, dAnd, dOr, dNot, dAndV, dOrV, dNotV, dTru, dTruB, dIf, dTup, dLst, mkL, dSlice, dSl, doNone, doSome, dSum, dAll, dAny, dList, dTuple, dMax, dMin, eq_ii, ne_ii, eq_ss, ne_ss, eq_bb, ne_bb, eq_nn, ne_nn, dIsN, dNotN, dIsB, dNotB, gN, gT, gsNil, gsCons, gSet, dBM, dAppend, dClear, dFld, dFldS, dProp, dCall, dMeth, dMake, dCallO, dFor, dLc, diR1, diR2, diL, diT, diRv, diS, diE, dFmt, dFStr, dJs, dCallN, dFrzE, frz_l, in_ss, notin_ss, drR1, drR2, dListR, dRaise, dRaise0, dTryAs, dTry, dXf, dAddO, dInO, isL, insOf, Option.some.injEq, List.cons.injEq, D.int.injEq, D.bl.injEq, D.str.injEq, D.lst.injEq, D.tup.injEq, D.ref.injEq, MO.lst.injEq, MO.ins.injEq, mset_mset, and_true, true_and, and_self, and_assoc, exists_eq_left', exists_eq_left, exists_and_left, exists_and_right, exists_eq', List.set_cons_zero, List.set_cons_succ, decide_eq_true_eq, sqOf, lsOf, List.length_cons, List.length_nil, sizeLine_eq, List.append_nil, List.cons_append, List.nil_append, if_true, if_false, Bool.false_eq_true, reduceCtorEq, reduceIte, Nat.reduceAdd, Nat.reduceLeDiff, mset_same, Option.bind_some, List.length_map, Prod.mk.injEq, at0, at1, at2, at3, ix30, ix31, ix32, ix20, ix21, ix10, isi_ii, isi_ib, isi_ll, isi_bb, isi_ss, isi_tt, isi_is, isi_si, Bool.not_true, Bool.not_false]
  refine draw_k (by omega) (by omega) (by omega) (by omega) (fun p v3 a3 b3 => ?_) mset_same
  rw [mset_mset]
  try simp only [dIfS, dTest, dOp, dVar, dC, dCB, daCons, daNil, dSet, dRet, dNext, dDrop, dAsg, dPar, dAug, dAddI, dBreak, dCont, dRetN, slot, dLen, dCmpI, dSub, dAdd, dMul, dDiv, dMod, dPow, dNeg, dUn, dIx, dInt1, dAbs, dChain, dAnd, dOr, dNot, dAndV, dOrV, dNotV, dTru, dTruB, dIf, dTup, dLst, mkL, dSlice, dSl, doNone, doSome, dSum, dAll, dAny, dList, dTuple, dMax, dMin, eq_ii, ne_ii, eq_ss, ne_ss, eq_bb, ne_bb, eq_nn, ne_nn, dIsN, dNotN, dIsB, dNotB, gN, gT, gsNil, gsCons, gSet, dBM, dAppend, dClear, dFld, dFldS, dProp, dCall, dMeth, dMake, dCallO, dFor, dLc, diR1, diR2, diL, diT, diRv, diS, diE, dFmt, dFStr, dJs, dCallN, dFrzE, frz_l, in_ss, notin_ss, drR1, drR2, dListR, dRaise, dRaise0, dTryAs, dTry, dXf, dAddO, dInO, isL, insOf, Option.some.injEq, List.cons.injEq, D.int.injEq, D.bl.injEq, D.str.injEq, D.lst.injEq, D.tup.injEq, D.ref.injEq, MO.lst.injEq, MO.ins.injEq, mset_mset, and_true, true_and, and_self, and_assoc, exists_eq_left', exists_eq_left, exists_and_left, exists_and_right, exists_eq', List.set_cons_zero, List.set_cons_succ, decide_eq_true_eq, sqOf, lsOf, List.length_cons, List.length_nil, sizeLine_eq, List.append_nil, List.cons_append, List.nil_append, if_true, if_false, Bool.false_eq_true, reduceCtorEq, reduceIte, Nat.reduceAdd, Nat.reduceLeDiff, mset_same, Option.bind_some, List.length_map, Prod.mk.injEq, at0, at1, at2, at3, ix30, ix31, ix32, ix20, ix21, ix10, isi_ii, isi_ib, isi_ll, isi_bb, isi_ss, isi_tt, isi_is, isi_si, Bool.not_true, Bool.not_false]
  have hzl := len_l z
  obtain ⟨e1, e2, e3⟩ := put_l z "1" (p := p) a3
  have h1 : (Str.ofString "1").length = 1 := by decide +kernel
  have h1l : (Str.ofString "1").cps.toList = [49] := by rw [s1_eq]
  refine ⟨by omega, by omega, by omega, by rw [len_l, app_l, List.length_append, ← len_l, ← len_l]; omega, q _ v3 (k' + 1) ?_ (by omega) (by omega)⟩
  rw [cal_l, e3, h1l]
  have hp : p.toNat < z.cps.toList.length := by omega
  generalize z.cps.toList = l at *
  unfold calL
  rw [decide_eq_true (by simp; omega), decide_eq_true (by simp), List.all_append, List.all_append]
  simp only [Bool.and_eq_true, List.all_eq_true] at hz ⊢
  exact ⟨⟨trivial, trivial⟩, ⟨fun x hx => hz x (List.mem_of_mem_take hx), by simp⟩, fun x hx => hz x (List.mem_of_mem_drop hx)⟩
theorem mul0_ok : ∀ n : Nat, n < 26 → PySem.MulOk ⟨#[48]⟩ (n : Int) := by unfold PySem.MulOk; decide +kernel
theorem mul1_ok : ∀ n : Nat, n < 26 → PySem.MulOk ⟨#[49]⟩ (n : Int) := by unfold PySem.MulOk; decide +kernel
theorem mul0_l : ∀ n : Nat, n < 26 → (PySem.Txt.mul ⟨#[48]⟩ (n : Int)).cps.toList = List.replicate n 48 := by decide +kernel
theorem mul1_l : ∀ n : Nat, n < 26 → (PySem.Txt.mul ⟨#[49]⟩ (n : Int)).cps.toList = List.replicate n 49 := by decide +kernel
structure BadW (w : Str) : Prop where
  bad : calB w = false
  len : w.length ≤ 1000
  ok : PyData.strOk w = true
theorem strOk_l {w : Str} (h : ∀ c ∈ w.cps.toList, c < 200) : PyData.strOk w = true := by
  unfold PyData.strOk
  rw [← Array.all_toList, List.all_eq_true]
  intro c hc
  have := h c hc
  simp
  omega
theorem cal_small {l : List Nat} (h : calL l = true) : ∀ c ∈ l, c < 200 := by
  unfold calL at h
  simp only [Bool.and_eq_true, List.all_eq_true] at h
  intro c hc
  have := h.2 c hc
  simp at this
  omega
theorem tup_cl {x : Str} {y : D} (hx : PyData.strOk x = true) (hy : clR 0 y = true) : clR 1 (.tup [.str x, y]) = true := by
  show ([D.str x, y].all (clR 0)) = true
  simp only [List.all_cons, List.all_nil, Bool.and_true, hy]
  exact hx
theorem k_cal2 : PyData.strOk (Str.ofString "calendar") = true := by decide +kernel
theorem k_speed : PyData.strOk (Str.ofString "speed") = true := by decide +kernel
theorem pure_law_refused {K : Fr0} {mg : Str → Option Value} (T : Txt K mg) (ds : List D) (m : M) (Q : D → M → Prop) (E : XD → M → Prop) (h : sp_law_refused K ds m Q E) : t_law_refused K (fun x _ m => E x m) { nx := fun _ m => Q .non m, rt := Q } (startD nm_law_refused ds) m := by
  obtain ⟨a, c, v, k, z, s, rfl, ha, ⟨k0, k1⟩, hc, ⟨s1, s2⟩, q⟩ := h
  obtain ⟨n1, n2, hat⟩ := cal_ok hc
  have hcl := hc
  rw [cal_l] at hcl
  have hsm := cal_small hcl
  have hzl := len_l z
  show t_law_refused K _ _ [some (.ref a), some (.str z), some (.int s), none, none, none, none, none] m
  unfold t_law_refused
  try simp only [dSeq]
  try simp only [dIfS, dTest, dOp, dVar, dC, dCB, daCons, daNil, dSet, dRet, dNext, dDrop, dAsg, dPar, dAug, dAddI, dBreak, dCont, dRetN, slot, dLen, dCmpI, dSub, dAdd, dMul, dDiv, dMod, dPow, dNeg, dUn, dIx, dInt1, dAbs, dChain, dAnd, dOr, dNot, dAndV, dOrV, dNotV, dTru, dTruB, dIf, dTup, dLst, mkL, dSlice, dSl, doNone, doSome, dSum, dAll, dAny, dList, dTuple, dMax, dMin, eq_ii, ne_ii, eq_ss, ne_ss, eq_bb, ne_bb, eq_nn, ne_nn, dIsN, dNotN, dIsB, dNotB, gN, gT, gsNil, gsCons, gSet, dBM, dAppend, dClear, dFld, dFldS, dProp, dCall, dMeth, dMake, dCallO, dFor, dLc, diR1, diR2, diL, diT, diRv, diS, diE, dFmt, dFStr, dJs, dCallN, dFrzE, frz_l, in_ss, notin_ss, drR1, drR2, dListR, dRaise, dRaise0, dTryAs, dTry, dXf, dAddO, dInO, isL, insOf, Option.some.injEq, List.cons.injEq, D.int.injEq, D.bl.injEq, D.str.injEq, D.lst.injEq, D.tup.injEq, D.ref.injEq, MO.lst.injEq, MO.ins.injEq, mset_mset, and_true, true_and, and_self, and_assoc, exists_eq_left', exists_eq_left, exists_and_left, exists_and_right, exists_eq', List.set_cons_zero, List.set_cons_succ, decide_eq_true_eq, sqOf, lsOf, List.length_cons, List.length_nil, sizeLine_eq, List.append_nil, List.cons_append, List.nil_append, if_true, if_false, Bool.false_eq_true, reduceCtorEq, reduceIte, Nat.reduceAdd, Nat.reduceLeDiff, mset_same, Option.bind_some, List.length_map, Prod.mk.injEq, at0, at1, at2, at3, ix30, ix31, ix32, ix20, ix21, ix10, isi_ii, isi_ib, isi_ll, isi_bb, isi_ss, isi_tt, isi_is, isi_si, Bool.not_true, Bool.not_false]
  refine ⟨by omega, ?_⟩
  refine draw_k (by omega) (by omega) (by omega) (by omega) (fun p v1 a1 b1 => ?_) ha
  try simp only [dSeq]
  try simp only [dIfS, dTest, dOp, dVar, dC, dCB, daCons, daNil, dSet, dRet, dNext, dDrop, dAsg, dPar, dAug, dAddI, dBreak, dCont, dRetN, slot, dLen, dCmpI, dSub, dAdd, dMul, dDiv, dMod, dPow, dNeg, dUn, dIx, dInt1, dAbs, dChain, dAnd, dOr, dNot, dAndV, dOrV, dNotV, dTru, dTruB, dIf, dTup, dLst, mkL, dSlice, dSl, doNone, doSome, dSum, dAll, dAny, dList, dTuple, dMax, dMin, eq_ii, ne_ii, eq_ss, ne_ss, eq_bb, ne_bb, eq_nn, ne_nn, dIsN, dNotN, dIsB, dNotB, gN, gT, gsNil, gsCons, gSet, dBM, dAppend, dClear, dFld, dFldS, dProp, dCall, dMeth, dMake, dCallO, dFor, dLc, diR1, diR2, diL, diT, diRv, diS, diE, dFmt, dFStr, dJs, dCallN, dFrzE, frz_l, in_ss, notin_ss, drR1, drR2, dListR, dRaise, dRaise0, dTryAs, dTry, dXf, dAddO, dInO, isL, insOf, Option.some.injEq, List.cons.injEq, D.int.injEq, D.bl.injEq, D.str.injEq, D.lst.injEq, D.tup.injEq, D.ref.injEq, MO.lst.injEq, MO.ins.injEq, mset_mset, and_true, true_and, and_self, and_assoc, exists_eq_left', exists_eq_left, exists_and_left, exists_and_right, exists_eq', List.set_cons_zero, List.set_cons_succ, decide_eq_true_eq, sqOf, lsOf, List.length_cons, List.length_nil, sizeLine_eq, List.append_nil, List.cons_append, List.nil_append, if_true, if_false, Bool.false_eq_true, reduceCtorEq, reduceIte, Nat.reduceAdd, Nat.reduceLeDiff, mset_same, Option.bind_some, List.length_map, Prod.mk.injEq, at0, at1, at2, at3, ix30, ix31, ix32, ix20, ix21, ix10, isi_ii, isi_ib, isi_ll, isi_bb, isi_ss, isi_tt, isi_is, isi_si, Bool.not_true, Bool.not_false]
  refine draw_k (by omega) (by omega) (by omega) (by omega) (fun i v2 a2 b2 => ?_) mset_same
  rw [mset_mset]
  obtain ⟨x, hx, hx2⟩ : ∃ x : Nat, atI (Str.ofString "2xO .-l").cps.toList i = some x ∧ (x ≠ 48 ∧ x ≠ 49 ∧ x < 200) := by
    have : i = 0 ∨ i = 1 ∨ i = 2 ∨ i = 3 ∨ i = 4 ∨ i = 5 ∨ i = 6 := by omega
    rcases this with rfl | rfl | rfl | rfl | rfl | rfl | rfl
    · exact ⟨50, by decide +kernel, by decide⟩
    · exact ⟨120, by decide +kernel, by decide⟩
    · exact ⟨79, by decide +kernel, by decide⟩
    · exact ⟨32, by decide +kernel, by decide⟩
    · exact ⟨46, by decide +kernel, by decide⟩
    · exact ⟨45, by decide +kernel, by decide⟩
    · exact ⟨108, by decide +kernel, by decide⟩
  refine ⟨_, rfl, by decide +kernel, x, hx, ?_⟩
  generalize hm : mset m a (pool c v2 (k + 1 + 1)) = m2
  have q : Q (.bl true) m2 := by rw [← hm]; exact q _ _ (by omega) (by omega)
  clear hm
  try simp only [dSeq]
  try simp only [dIfS, dTest, dOp, dVar, dC, dCB, daCons, daNil, dSet, dRet, dNext, dDrop, dAsg, dPar, dAug, dAddI, dBreak, dCont, dRetN, slot, dLen, dCmpI, dSub, dAdd, dMul, dDiv, dMod, dPow, dNeg, dUn, dIx, dInt1, dAbs, dChain, dAnd, dOr, dNot, dAndV, dOrV, dNotV, dTru, dTruB, dIf, dTup, dLst, mkL, dSlice, dSl, doNone, doSome, dSum, dAll, dAny, dList, dTuple, dMax, dMin, eq_ii, ne_ii, eq_ss, ne_ss, eq_bb, ne_bb, eq_nn, ne_nn, dIsN, dNotN, dIsB, dNotB, gN, gT, gsNil, gsCons, gSet, dBM, dAppend, dClear, dFld, dFldS, dProp, dCall, dMeth, dMake, dCallO, dFor, dLc, diR1, diR2, diL, diT, diRv, diS, diE, dFmt, dFStr, dJs, dCallN, dFrzE, frz_l, in_ss, notin_ss, drR1, drR2, dListR, dRaise, dRaise0, dTryAs, dTry, dXf, dAddO, dInO, isL, insOf, Option.some.injEq, List.cons.injEq, D.int.injEq, D.bl.injEq, D.str.injEq, D.lst.injEq, D.tup.injEq, D.ref.injEq, MO.lst.injEq, MO.ins.injEq, mset_mset, and_true, true_and, and_self, and_assoc, exists_eq_left', exists_eq_left, exists_and_left, exists_and_right, exists_eq', List.set_cons_zero, List.set_cons_succ, decide_eq_true_eq, sqOf, lsOf, List.length_cons, List.length_nil, sizeLine_eq, List.append_nil, List.cons_append, List.nil_append, if_true, if_false, Bool.false_eq_true, reduceCtorEq, reduceIte, Nat.reduceAdd, Nat.reduceLeDiff, mset_same, Option.bind_some, List.length_map, Prod.mk.injEq, at0, at1, at2, at3, ix30, ix31, ix32, ix20, ix21, ix10, isi_ii, isi_ib, isi_ll, isi_bb, isi_ss, isi_tt, isi_is, isi_si, Bool.not_true, Bool.not_false]
  rw [show ((25 : Int) - ((z.length : Nat) : Int)) = ((25 - z.length : Nat) : Int) by omega]
  refine ⟨by omega, Str.ofString "0", _, rfl, rfl, by rw [s0_eq]; exact mul0_ok _ (by omega), by omega, Str.ofString "1", _, rfl, rfl, by rw [s1_eq]; exact mul1_ok _ (by omega), ?_⟩
  have l1 : (PySem.Txt.mul (Str.ofString "0") ((z.length : Nat) : Int)).cps.toList = List.replicate z.length 48 := by rw [s0_eq]; exact mul0_l _ (by omega)
  have l2 : (PySem.Txt.mul (Str.ofString "1") ((25 - z.length : Nat) : Int)).cps.toList = List.replicate (25 - z.length) 49 := by rw [s1_eq]; exact mul1_l _ (by omega)
  generalize PySem.Txt.mul (Str.ofString "0") ((z.length : Nat) : Int) = w1 at *
  generalize PySem.Txt.mul (Str.ofString "1") ((25 - z.length : Nat) : Int) = w2 at *
  have B0 : BadW (Str.ofString "") := ⟨by decide +kernel, by decide +kernel, by decide +kernel⟩
  have B1 : BadW w1 := by
    refine ⟨?_, by rw [len_l, l1, List.length_replicate]; omega, strOk_l fun c hc => ?_⟩
    · rw [cal_l, l1]
      unfold calL
      rw [decide_eq_false (p := 49 ∈ List.replicate z.length 48) fun h => by have := (List.mem_replicate.mp h).2; omega]
      simp
    · rw [l1] at hc
      have := (List.mem_replicate.mp hc).2
      omega
  have hl2 : w2.length = 25 - z.length := by rw [len_l w2, l2, List.length_replicate]
  have B2 : BadW (z ++ w2) := by
    refine ⟨?_, by rw [len_l, app_l, l2, List.length_append, List.length_replicate]; omega, strOk_l fun c hc => ?_⟩
    · rw [cal_l, app_l, l2]
      unfold calL
      rw [decide_eq_false (p := 1 ≤ _ ∧ _ ≤ 24) (by rw [List.length_append, List.length_replicate]; omega)]
      rfl
    · rw [app_l, l2] at hc
      rcases List.mem_append.mp hc with h | h
      · exact hsm c h
      · have := (List.mem_replicate.mp h).2
        omega
  obtain ⟨e1, e2, e3⟩ := put_l z ⟨#[x]⟩ (p := p) a1
  have B3 : BadW (cutS z none (some p) ++ ⟨#[x]⟩ ++ cutS z (some (p + 1)) none) := by
    refine ⟨?_, ?_, strOk_l fun c hc => ?_⟩
    · rw [cal_l, e3]
      unfold calL
      rw [List.all_append, List.all_append]
      simp [hx2.1, hx2.2.1]
    · have hx1 : (⟨#[x]⟩ : Str).cps.toList = [x] := rfl
      rw [len_l, e3, hx1]
      simp only [List.length_append, List.length_take, List.length_drop, List.length_cons, List.length_nil]
      omega
    · rw [e3] at hc
      rcases List.mem_append.mp hc with h | h
      · rcases List.mem_append.mp h with h | h
        · exact hsm c (List.mem_of_mem_take h)
        · simp at h
          omega
      · exact hsm c (List.mem_of_mem_drop h)
  refine ⟨by omega, fun b hb => ?_⟩
  try simp only [dSeq]
  try simp only [dIfS, dTest, dOp, dVar, dC, dCB, daCons, daNil, dSet, dRet, dNext, dDrop, dAsg, dPar, dAug, dAddI, dBreak, dCont, dRetN, slot, dLen, dCmpI, dSub, dAdd, dMul, dDiv, dMod, dPow, dNeg, dUn, dIx, dInt1, dAbs, dChain, dAnd, dOr, dNot, dAndV, dOrV, dNotV, dTru, dTruB, dIf, dTup, dLst, mkL, dSlice, dSl, doNone, doSome, dSum, dAll, dAny, dList, dTuple, dMax, dMin, eq_ii, ne_ii, eq_ss, ne_ss, eq_bb, ne_bb, eq_nn, ne_nn, dIsN, dNotN, dIsB, dNotB, gN, gT, gsNil, gsCons, gSet, dBM, dAppend, dClear, dFld, dFldS, dProp, dCall, dMeth, dMake, dCallO, dFor, dLc, diR1, diR2, diL, diT, diRv, diS, diE, dFmt, dFStr, dJs, dCallN, dFrzE, frz_l, in_ss, notin_ss, drR1, drR2, dListR, dRaise, dRaise0, dTryAs, dTry, dXf, dAddO, dInO, isL, insOf, Option.some.injEq, List.cons.injEq, D.int.injEq, D.bl.injEq, D.str.injEq, D.lst.injEq, D.tup.injEq, D.ref.injEq, MO.lst.injEq, MO.ins.injEq, mset_mset, and_true, true_and, and_self, and_assoc, exists_eq_left', exists_eq_left, exists_and_left, exists_and_right, exists_eq', List.set_cons_zero, List.set_cons_succ, decide_eq_true_eq, sqOf, lsOf, List.length_cons, List.length_nil, sizeLine_eq, List.append_nil, List.cons_append, List.nil_append, if_true, if_false, Bool.false_eq_true, reduceCtorEq, reduceIte, Nat.reduceAdd, Nat.reduceLeDiff, mset_same, Option.bind_some, List.length_map, Prod.mk.injEq, at0, at1, at2, at3, ix30, ix31, ix32, ix20, ix21, ix10, isi_ii, isi_ib, isi_ll, isi_bb, isi_ss, isi_tt, isi_is, isi_si, Bool.not_true, Bool.not_false]
  have lx : (⟨#[x]⟩ : Str).length = 1 := rfl
  have la : (cutS z none (some p) ++ (⟨#[x]⟩ : Str)).length = (cutS z none (some p)).length + 1 := by rw [len_l, app_l, List.length_append, ← len_l]; rfl
  refine ⟨by omega, by omega, by omega, by omega, by omega, ?_⟩
  refine ⟨b, _, rfl, mset_same, ?_⟩
  rw [mdel_mset hb]
  generalize hws : [D.str (Str.ofString ""), D.str w1, D.str (z ++ w2), D.str (cutS z none (some p) ++ ⟨#[x]⟩ ++ cutS z (some (p + 1)) none)] = ws
  have hw : ∀ (j : Nat) (d : D), ws[j]? = some d → ∃ w, d = .str w ∧ BadW w := by
    intro j d hd
    have := List.mem_of_getElem? hd
    rw [← hws] at this
    simp only [List.mem_cons, List.not_mem_nil, or_false] at this
    rcases this with rfl | rfl | rfl | rfl
    · exact ⟨_, rfl, B0⟩
    · exact ⟨_, rfl, B1⟩
    · exact ⟨_, rfl, B2⟩
    · exact ⟨_, rfl, B3⟩
  clear hws
  try simp only [dSeq]
  try simp only [dIfS, dTest, dOp, dVar, dC, dCB, daCons, daNil, dSet, dRet, dNext, dDrop, dAsg, dPar, dAug, dAddI, dBreak, dCont, dRetN, slot, dLen, dCmpI, dSub, dAdd, dMul, dDiv, dMod, dPow, dNeg, dUn, dIx, dInt1, dAbs, dChain, dAnd, dOr, dNot, dAndV, dOrV, dNotV, dTru, dTruB, dIf, dTup, dLst, mkL, dSlice, dSl, doNone, doSome, dSum, dAll, dAny, dList, dTuple, dMax, dMin, eq_ii, ne_ii, eq_ss, ne_ss, eq_bb, ne_bb, eq_nn, ne_nn, dIsN, dNotN, dIsB, dNotB, gN, gT, gsNil, gsCons, gSet, dBM, dAppend, dClear, dFld, dFldS, dProp, dCall, dMeth, dMake, dCallO, dFor, dLc, diR1, diR2, diL, diT, diRv, diS, diE, dFmt, dFStr, dJs, dCallN, dFrzE, frz_l, in_ss, notin_ss, drR1, drR2, dListR, dRaise, dRaise0, dTryAs, dTry, dXf, dAddO, dInO, isL, insOf, Option.some.injEq, List.cons.injEq, D.int.injEq, D.bl.injEq, D.str.injEq, D.lst.injEq, D.tup.injEq, D.ref.injEq, MO.lst.injEq, MO.ins.injEq, mset_mset, and_true, true_and, and_self, and_assoc, exists_eq_left', exists_eq_left, exists_and_left, exists_and_right, exists_eq', List.set_cons_zero, List.set_cons_succ, decide_eq_true_eq, sqOf, lsOf, List.length_cons, List.length_nil, sizeLine_eq, List.append_nil, List.cons_append, List.nil_append, if_true, if_false, Bool.false_eq_true, reduceCtorEq, reduceIte, Nat.reduceAdd, Nat.reduceLeDiff, mset_same, Option.bind_some, List.length_map, Prod.mk.injEq, at0, at1, at2, at3, ix30, ix31, ix32, ix20, ix21, ix10, isi_ii, isi_ib, isi_ll, isi_bb, isi_ss, isi_tt, isi_is, isi_si, Bool.not_true, Bool.not_false]
  obtain ⟨P, hP⟩ : ∃ P : Nat → DSt → M → Prop, ∀ j r m', P j r m' ↔ m' = m2 ∧ ∃ o6 o7, r = [some (.ref a), some (.str z), some (.int s), some (.int p), some (.str ⟨#[x]⟩), some (.lst ws), o6, o7] := ⟨_, fun _ _ _ => Iff.rfl⟩
  refine ⟨P, (hP _ _ _).mpr ⟨rfl, _, _, rfl⟩, ?_, ?_⟩
  · intro j d r m' hd hp
    obtain ⟨rfl, o6, o7, rfl⟩ := (hP _ _ _).mp hp
    obtain ⟨w, rfl, hbad, hlen, hok⟩ := hw j d hd
    try simp only [dSeq]
    try simp only [dIfS, dTest, dOp, dVar, dC, dCB, daCons, daNil, dSet, dRet, dNext, dDrop, dAsg, dPar, dAug, dAddI, dBreak, dCont, dRetN, slot, dLen, dCmpI, dSub, dAdd, dMul, dDiv, dMod, dPow, dNeg, dUn, dIx, dInt1, dAbs, dChain, dAnd, dOr, dNot, dAndV, dOrV, dNotV, dTru, dTruB, dIf, dTup, dLst, mkL, dSlice, dSl, doNone, doSome, dSum, dAll, dAny, dList, dTuple, dMax, dMin, eq_ii, ne_ii, eq_ss, ne_ss, eq_bb, ne_bb, eq_nn, ne_nn, dIsN, dNotN, dIsB, dNotB, gN, gT, gsNil, gsCons, gSet, dBM, dAppend, dClear, dFld, dFldS, dProp, dCall, dMeth, dMake, dCallO, dFor, dLc, diR1, diR2, diL, diT, diRv, diS, diE, dFmt, dFStr, dJs, dCallN, dFrzE, frz_l, in_ss, notin_ss, drR1, drR2, dListR, dRaise, dRaise0, dTryAs, dTry, dXf, dAddO, dInO, isL, insOf, Option.some.injEq, List.cons.injEq, D.int.injEq, D.bl.injEq, D.str.injEq, D.lst.injEq, D.tup.injEq, D.ref.injEq, MO.lst.injEq, MO.ins.injEq, mset_mset, and_true, true_and, and_self, and_assoc, exists_eq_left', exists_eq_left, exists_and_left, exists_and_right, exists_eq', List.set_cons_zero, List.set_cons_succ, decide_eq_true_eq, sqOf, lsOf, List.length_cons, List.length_nil, sizeLine_eq, List.append_nil, List.cons_append, List.nil_append, if_true, if_false, Bool.false_eq_true, reduceCtorEq, reduceIte, Nat.reduceAdd, Nat.reduceLeDiff, mset_same, Option.bind_some, List.length_map, Prod.mk.injEq, at0, at1, at2, at3, ix30, ix31, ix32, ix20, ix21, ix10, isi_ii, isi_ib, isi_ll, isi_bb, isi_ss, isi_tt, isi_is, isi_si, Bool.not_true, Bool.not_false]
    obtain ⟨P2, hP2⟩ : ∃ P : Nat → DSt → M → Prop, ∀ j r m2, P j r m2 ↔ m2 = m' ∧ ∃ o7, r = [some (.ref a), some (.str z), some (.int s), some (.int p), some (.str ⟨#[x]⟩), some (.lst ws), some (.str w), o7] := ⟨_, fun _ _ _ => Iff.rfl⟩
    refine ⟨P2, (hP2 _ _ _).mpr ⟨rfl, _, rfl⟩, ?_, ?_⟩
    · intro i2 d2 r2 m3 hd2 hp2
      obtain ⟨rfl, o7, rfl⟩ := (hP2 _ _ _).mp hp2
      obtain ⟨y, rfl⟩ : ∃ y : Int, d2 = .int y := by
        have := List.mem_of_getElem? hd2
        simp only [List.mem_cons, List.not_mem_nil, or_false] at this
        rcases this with rfl | rfl | rfl <;> exact ⟨_, rfl⟩
      try simp only [dIfS, dTest, dOp, dVar, dC, dCB, daCons, daNil, dSet, dRet, dNext, dDrop, dAsg, dPar, dAug, dAddI, dBreak, dCont, dRetN, slot, dLen, dCmpI, dSub, dAdd, dMul, dDiv, dMod, dPow, dNeg, dUn, dIx, dInt1, dAbs, dChain, dAnd, dOr, dNot, dAndV, dOrV, dNotV, dTru, dTruB, dIf, dTup, dLst, mkL, dSlice, dSl, doNone, doSome, dSum, dAll, dAny, dList, dTuple, dMax, dMin, eq_ii, ne_ii, eq_ss, ne_ss, eq_bb, ne_bb, eq_nn, ne_nn, dIsN, dNotN, dIsB, dNotB, gN, gT, gsNil, gsCons, gSet, dBM, dAppend, dClear, dFld, dFldS, dProp, dCall, dMeth, dMake, dCallO, dFor, dLc, diR1, diR2, diL, diT, diRv, diS, diE, dFmt, dFStr, dJs, dCallN, dFrzE, frz_l, in_ss, notin_ss, drR1, drR2, dListR, dRaise, dRaise0, dTryAs, dTry, dXf, dAddO, dInO, isL, insOf, Option.some.injEq, List.cons.injEq, D.int.injEq, D.bl.injEq, D.str.injEq, D.lst.injEq, D.tup.injEq, D.ref.injEq, MO.lst.injEq, MO.ins.injEq, mset_mset, and_true, true_and, and_self, and_assoc, exists_eq_left', exists_eq_left, exists_and_left, exists_and_right, exists_eq', List.set_cons_zero, List.set_cons_succ, decide_eq_true_eq, sqOf, lsOf, List.length_cons, List.length_nil, sizeLine_eq, List.append_nil, List.cons_append, List.nil_append, if_true, if_false, Bool.false_eq_true, reduceCtorEq, reduceIte, Nat.reduceAdd, Nat.reduceLeDiff, mset_same, Option.bind_some, List.length_map, Prod.mk.injEq, at0, at1, at2, at3, ix30, ix31, ix32, ix20, ix21, ix10, isi_ii, isi_ib, isi_ll, isi_bb, isi_ss, isi_tt, isi_is, isi_si, Bool.not_true, Bool.not_false]
      refine ⟨w, y, rfl, hlen, fun _ => ?_, (fun h => absurd (hbad.symm.trans h) Bool.false_ne_true), (fun h => absurd (hbad.symm.trans h) Bool.false_ne_true)⟩
      refine dNe_refl (by omega) (tup_cl k_cal2 (y := .str w) hok) ?_
      try simp only [dIfS, dTest, dOp, dVar, dC, dCB, daCons, daNil, dSet, dRet, dNext, dDrop, dAsg, dPar, dAug, dAddI, dBreak, dCont, dRetN, slot, dLen, dCmpI, dSub, dAdd, dMul, dDiv, dMod, dPow, dNeg, dUn, dIx, dInt1, dAbs, dChain, dAnd, dOr, dNot, dAndV, dOrV, dNotV, dTru, dTruB, dIf, dTup, dLst, mkL, dSlice, dSl, doNone, doSome, dSum, dAll, dAny, dList, dTuple, dMax, dMin, eq_ii, ne_ii, eq_ss, ne_ss, eq_bb, ne_bb, eq_nn, ne_nn, dIsN, dNotN, dIsB, dNotB, gN, gT, gsNil, gsCons, gSet, dBM, dAppend, dClear, dFld, dFldS, dProp, dCall, dMeth, dMake, dCallO, dFor, dLc, diR1, diR2, diL, diT, diRv, diS, diE, dFmt, dFStr, dJs, dCallN, dFrzE, frz_l, in_ss, notin_ss, drR1, drR2, dListR, dRaise, dRaise0, dTryAs, dTry, dXf, dAddO, dInO, isL, insOf, Option.some.injEq, List.cons.injEq, D.int.injEq, D.bl.injEq, D.str.injEq, D.lst.injEq, D.tup.injEq, D.ref.injEq, MO.lst.injEq, MO.ins.injEq, mset_mset, and_true, true_and, and_self, and_assoc, exists_eq_left', exists_eq_left, exists_and_left, exists_and_right, exists_eq', List.set_cons_zero, List.set_cons_succ, decide_eq_true_eq, sqOf, lsOf, List.length_cons, List.length_nil, sizeLine_eq, List.append_nil, List.cons_append, List.nil_append, if_true, if_false, Bool.false_eq_true, reduceCtorEq, reduceIte, Nat.reduceAdd, Nat.reduceLeDiff, mset_same, Option.bind_some, List.length_map, Prod.mk.injEq, at0, at1, at2, at3, ix30, ix31, ix32, ix20, ix21, ix10, isi_ii, isi_ib, isi_ll, isi_bb, isi_ss, isi_tt, isi_is, isi_si, Bool.not_true, Bool.not_false]
      exact (hP2 _ _ _).mpr ⟨rfl, _, rfl⟩
    intro r2 m3 hp2
    obtain ⟨rfl, o7, rfl⟩ := (hP2 _ _ _).mp hp2
    try simp only [dIfS, dTest, dOp, dVar, dC, dCB, daCons, daNil, dSet, dRet, dNext, dDrop, dAsg, dPar, dAug, dAddI, dBreak, dCont, dRetN, slot, dLen, dCmpI, dSub, dAdd, dMul, dDiv, dMod, dPow, dNeg, dUn, dIx, dInt1, dAbs, dChain, dAnd, dOr, dNot, dAndV, dOrV, dNotV, dTru, dTruB, dIf, dTup, dLst, mkL, dSlice, dSl, doNone, doSome, dSum, dAll, dAny, dList, dTuple, dMax, dMin, eq_ii, ne_ii, eq_ss, ne_ss, eq_bb, ne_bb, eq_nn, ne_nn, dIsN, dNotN, dIsB, dNotB, gN, gT, gsNil, gsCons, gSet, dBM, dAppend, dClear, dFld, dFldS, dProp, dCall, dMeth, dMake, dCallO, dFor, dLc, diR1, diR2, diL, diT, diRv, diS, diE, dFmt, dFStr, dJs, dCallN, dFrzE, frz_l, in_ss, notin_ss, drR1, drR2, dListR, dRaise, dRaise0, dTryAs, dTry, dXf, dAddO, dInO, isL, insOf, Option.some.injEq, List.cons.injEq, D.int.injEq, D.bl.injEq, D.str.injEq, D.lst.injEq, D.tup.injEq, D.ref.injEq, MO.lst.injEq, MO.ins.injEq, mset_mset, and_true, true_and, and_self, and_assoc, exists_eq_left', exists_eq_left, exists_and_left, exists_and_right, exists_eq', List.set_cons_zero, List.set_cons_succ, decide_eq_true_eq, sqOf, lsOf, List.length_cons, List.length_nil, sizeLine_eq, List.append_nil, List.cons_append, List.nil_append, if_true, if_false, Bool.false_eq_true, reduceCtorEq, reduceIte, Nat.reduceAdd, Nat.reduceLeDiff, mset_same, Option.bind_some, List.length_map, Prod.mk.injEq, at0, at1, at2, at3, ix30, ix31, ix32, ix20, ix21, ix10, isi_ii, isi_ib, isi_ll, isi_bb, isi_ss, isi_tt, isi_is, isi_si, Bool.not_true, Bool.not_false]
    refine ⟨w, 3, rfl, hlen, by decide +kernel, fun _ => ?_, (fun h => absurd (hbad.symm.trans h) Bool.false_ne_true)⟩
    refine dNe_refl (by omega) (tup_cl k_cal2 (y := .str w) hok) ?_
    try simp only [dIfS, dTest, dOp, dVar, dC, dCB, daCons, daNil, dSet, dRet, dNext, dDrop, dAsg, dPar, dAug, dAddI, dBreak, dCont, dRetN, slot, dLen, dCmpI, dSub, dAdd, dMul, dDiv, dMod, dPow, dNeg, dUn, dIx, dInt1, dAbs, dChain, dAnd, dOr, dNot, dAndV, dOrV, dNotV, dTru, dTruB, dIf, dTup, dLst, mkL, dSlice, dSl, doNone, doSome, dSum, dAll, dAny, dList, dTuple, dMax, dMin, eq_ii, ne_ii, eq_ss, ne_ss, eq_bb, ne_bb, eq_nn, ne_nn, dIsN, dNotN, dIsB, dNotB, gN, gT, gsNil, gsCons, gSet, dBM, dAppend, dClear, dFld, dFldS, dProp, dCall, dMeth, dMake, dCallO, dFor, dLc, diR1, diR2, diL, diT, diRv, diS, diE, dFmt, dFStr, dJs, dCallN, dFrzE, frz_l, in_ss, notin_ss, drR1, drR2, dListR, dRaise, dRaise0, dTryAs, dTry, dXf, dAddO, dInO, isL, insOf, Option.some.injEq, List.cons.injEq, D.int.injEq, D.bl.injEq, D.str.injEq, D.lst.injEq, D.tup.injEq, D.ref.injEq, MO.lst.injEq, MO.ins.injEq, mset_mset, and_true, true_and, and_self, and_assoc, exists_eq_left', exists_eq_left, exists_and_left, exists_and_right, exists_eq', List.set_cons_zero, List.set_cons_succ, decide_eq_true_eq, sqOf, lsOf, List.length_cons, List.length_nil, sizeLine_eq, List.append_nil, List.cons_append, List.nil_append, if_true, if_false, Bool.false_eq_true, reduceCtorEq, reduceIte, Nat.reduceAdd, Nat.reduceLeDiff, mset_same, Option.bind_some, List.length_map, Prod.mk.injEq, at0, at1, at2, at3, ix30, ix31, ix32, ix20, ix21, ix10, isi_ii, isi_ib, isi_ll, isi_bb, isi_ss, isi_tt, isi_is, isi_si, Bool.not_true, Bool.not_false]
    exact (hP _ _ _).mpr ⟨rfl, _, _, rfl⟩
  intro r m' hp
  obtain ⟨rfl, o6, o7, rfl⟩ := (hP _ _ _).mp hp
  try simp only [dIfS, dTest, dOp, dVar, dC, dCB, daCons, daNil, dSet, dRet, dNext, dDrop, dAsg, dPar, dAug, dAddI, dBreak, dCont, dRetN, slot, dLen, dCmpI, dSub, dAdd, dMul, dDiv, dMod, dPow, dNeg, dUn, dIx, dInt1, dAbs, dChain, dAnd, dOr, dNot, dAndV, dOrV, dNotV, dTru, dTruB, dIf, dTup, dLst, mkL, dSlice, dSl, doNone, doSome, dSum, dAll, dAny, dList, dTuple, dMax, dMin, eq_ii, ne_ii, eq_ss, ne_ss, eq_bb, ne_bb, eq_nn, ne_nn, dIsN, dNotN, dIsB, dNotB, gN, gT, gsNil, gsCons, gSet, dBM, dAppend, dClear, dFld, dFldS, dProp, dCall, dMeth, dMake, dCallO, dFor, dLc, diR1, diR2, diL, diT, diRv, diS, diE, dFmt, dFStr, dJs, dCallN, dFrzE, frz_l, in_ss, notin_ss, drR1, drR2, dListR, dRaise, dRaise0, dTryAs, dTry, dXf, dAddO, dInO, isL, insOf, Option.some.injEq, List.cons.injEq, D.int.injEq, D.bl.injEq, D.str.injEq, D.lst.injEq, D.tup.injEq, D.ref.injEq, MO.lst.injEq, MO.ins.injEq, mset_mset, and_true, true_and, and_self, and_assoc, exists_eq_left', exists_eq_left, exists_and_left, exists_and_right, exists_eq', List.set_cons_zero, List.set_cons_succ, decide_eq_true_eq, sqOf, lsOf, List.length_cons, List.length_nil, sizeLine_eq, List.append_nil, List.cons_append, List.nil_append, if_true, if_false, Bool.false_eq_true, reduceCtorEq, reduceIte, Nat.reduceAdd, Nat.reduceLeDiff, mset_same, Option.bind_some, List.length_map, Prod.mk.injEq, at0, at1, at2, at3, ix30, ix31, ix32, ix20, ix21, ix10, isi_ii, isi_ib, isi_ll, isi_bb, isi_ss, isi_tt, isi_is, isi_si, Bool.not_true, Bool.not_false]
  refine ⟨z, 0, rfl, by omega, (fun h => absurd (h.symm.trans hc) Bool.false_ne_true), fun _ _ => ?_, (fun _ h => absurd h (by omega))⟩
  refine dEq_refl (by omega) (tup_cl k_speed (y := .int 0) rfl) ?_
  try simp only [dIfS, dTest, dOp, dVar, dC, dCB, daCons, daNil, dSet, dRet, dNext, dDrop, dAsg, dPar, dAug, dAddI, dBreak, dCont, dRetN, slot, dLen, dCmpI, dSub, dAdd, dMul, dDiv, dMod, dPow, dNeg, dUn, dIx, dInt1, dAbs, dChain, dAnd, dOr, dNot, dAndV, dOrV, dNotV, dTru, dTruB, dIf, dTup, dLst, mkL, dSlice, dSl, doNone, doSome, dSum, dAll, dAny, dList, dTuple, dMax, dMin, eq_ii, ne_ii, eq_ss, ne_ss, eq_bb, ne_bb, eq_nn, ne_nn, dIsN, dNotN, dIsB, dNotB, gN, gT, gsNil, gsCons, gSet, dBM, dAppend, dClear, dFld, dFldS, dProp, dCall, dMeth, dMake, dCallO, dFor, dLc, diR1, diR2, diL, diT, diRv, diS, diE, dFmt, dFStr, dJs, dCallN, dFrzE, frz_l, in_ss, notin_ss, drR1, drR2, dListR, dRaise, dRaise0, dTryAs, dTry, dXf, dAddO, dInO, isL, insOf, Option.some.injEq, List.cons.injEq, D.int.injEq, D.bl.injEq, D.str.injEq, D.lst.injEq, D.tup.injEq, D.ref.injEq, MO.lst.injEq, MO.ins.injEq, mset_mset, and_true, true_and, and_self, and_assoc, exists_eq_left', exists_eq_left, exists_and_left, exists_and_right, exists_eq', List.set_cons_zero, List.set_cons_succ, decide_eq_true_eq, sqOf, lsOf, List.length_cons, List.length_nil, sizeLine_eq, List.append_nil, List.cons_append, List.nil_append, if_true, if_false, Bool.false_eq_true, reduceCtorEq, reduceIte, Nat.reduceAdd, Nat.reduceLeDiff, mset_same, Option.bind_some, List.length_map, Prod.mk.injEq, at0, at1, at2, at3, ix30, ix31, ix32, ix20, ix21, ix10, isi_ii, isi_ib, isi_ll, isi_bb, isi_ss, isi_tt, isi_is, isi_si, Bool.not_true, Bool.not_false]
  refine ⟨z, 100, rfl, by omega, (fun h => absurd (h.symm.trans hc) Bool.false_ne_true), fun _ _ => ?_, (fun _ _ h => absurd h (by omega))⟩
  refine dEq_refl (by omega) (tup_cl k_speed (y := .int 100) rfl) ?_
  try simp only [dIfS, dTest, dOp, dVar, dC, dCB, daCons, daNil, dSet, dRet, dNext, dDrop, dAsg, dPar, dAug, dAddI, dBreak, dCont, dRetN, slot, dLen, dCmpI, dSub, dAdd, dMul, dDiv, dMod, dPow, dNeg, dUn, dIx, dInt1, dAbs, dChain, dAnd, dOr, dNot, dAndV, dOrV, dNotV, dTru, dTruB, dIf, dTup, dLst, mkL, dSlice, dSl, doNone, doSome, dSum, dAll, dAny, dList, dTuple, dMax, dMin, eq_ii, ne_ii, eq_ss, ne_ss, eq_bb, ne_bb, eq_nn, ne_nn, dIsN, dNotN, dIsB, dNotB, gN, gT, gsNil, gsCons, gSet, dBM, dAppend, dClear, dFld, dFldS, dProp, dCall, dMeth, dMake, dCallO, dFor, dLc, diR1, diR2, diL, diT, diRv, diS, diE, dFmt, dFStr, dJs, dCallN, dFrzE, frz_l, in_ss, notin_ss, drR1, drR2, dListR, dRaise, dRaise0, dTryAs, dTry, dXf, dAddO, dInO, isL, insOf, Option.some.injEq, List.cons.injEq, D.int.injEq, D.bl.injEq, D.str.injEq, D.lst.injEq, D.tup.injEq, D.ref.injEq, MO.lst.injEq, MO.ins.injEq, mset_mset, and_true, true_and, and_self, and_assoc, exists_eq_left', exists_eq_left, exists_and_left, exists_and_right, exists_eq', List.set_cons_zero, List.set_cons_succ, decide_eq_true_eq, sqOf, lsOf, List.length_cons, List.length_nil, sizeLine_eq, List.append_nil, List.cons_append, List.nil_append, if_true, if_false, Bool.false_eq_true, reduceCtorEq, reduceIte, Nat.reduceAdd, Nat.reduceLeDiff, mset_same, Option.bind_some, List.length_map, Prod.mk.injEq, at0, at1, at2, at3, ix30, ix31, ix32, ix20, ix21, ix10, isi_ii, isi_ib, isi_ll, isi_bb, isi_ss, isi_tt, isi_is, isi_si, Bool.not_true, Bool.not_false]
  exact q
--cut
theorem opn_mod (z : Str) (b t : Nat) (hn : 1 ≤ z.length) : opn z b t = ((t / z.length : Nat) : Int) * cntS z + opn z b (t % z.length) := by
  unfold opn
  have h : t % z.length < z.length := Nat.mod_lt _ (by omega)
  rw [Nat.div_eq_of_lt h, Nat.mod_mod]
  simp
theorem low_mod {z : Str} {t : Nat} {x : Int} (hn : 1 ≤ z.length) (h : IsLow z (t % z.length) x) : IsLow z t (((t / z.length : Nat) : Int) * cntS z + x) := by
  obtain ⟨⟨b, hb, e⟩, hm⟩ := h
  refine ⟨⟨b, hb, by rw [opn_mod z b t hn, e]⟩, fun c hc => ?_⟩
  rw [opn_mod z c t hn]
  have := hm c hc
  omega
theorem low_eq {z : Str} {t : Nat} {x y : Int} (h : IsLow z t x) (h' : IsLow z t y) : x = y := by
  obtain ⟨⟨b, hb, e⟩, hm⟩ := h
  obtain ⟨⟨b', hb', e'⟩, hm'⟩ := h'
  have h1 := hm b' hb'
  have h2 := hm' b hb
  omega
theorem low_zero {z : Str} (hn : 1 ≤ z.length) {x : Int} (h : IsLow z 0 x) : x = 0 := by
  obtain ⟨⟨b, hb, e⟩, _⟩ := h
  rw [← e]
  unfold opn
  simp
/-- a row of a calendar -/
theorem row_val {z : Str} {s : Int} {cs : List Int} (hn : 1 ≤ z.length) (hl : cs.length = z.length) (hcs : ∀ t, t < z.length → ∃ x, IsLow z t x ∧ cs[t]? = some (s * x)) (t : Nat) {x : Int} (h : IsLow z t x) : val cs z.length (s * cntS z) t = s * x := by
  have hm : t % z.length < z.length := Nat.mod_lt _ (by omega)
  obtain ⟨y, hy, hc⟩ := hcs _ hm
  have e := low_eq h (low_mod hn hy)
  rw [e, Int.mul_add]
  unfold val
  rw [hl]
  by_cases ht : t < z.length
  · rw [if_pos ht, List.getD_eq_getElem?_getD]
    rw [Nat.mod_eq_of_lt ht] at hc
    rw [hc, Nat.div_eq_of_lt ht]
    simp
  · rw [if_neg ht]
    have e1 : (t - z.length) / z.length + 1 = t / z.length := by
      have := Nat.div_eq t z.length
      rw [if_pos ⟨by omega, by omega⟩] at this
      exact this.symm
    rw [e1]
    have e2 : t - t / z.length * z.length = t % z.length := by
      have := Nat.mod_add_div t z.length
      rw [Nat.mul_comm] at this
      omega
    rw [e2, List.getD_eq_getElem?_getD, hc]
    simp only [Option.getD_some]
    rw [Int.mul_left_comm, Int.add_comm]
theorem cs_back {z : Str} {s : Int} {cs : List Int} (hl : cs.length = z.length) : (List.range z.length).map (val cs z.length (s * cntS z)) = cs := by
  refine List.ext_getElem? fun i => ?_
  rw [List.getElem?_map]
  by_cases h : i < z.length
  · rw [List.getElem?_range h, Option.map_some, val_lt (by omega), List.getD_eq_getElem?_getD, List.getElem?_eq_getElem (by omega)]
    rfl
  · rw [List.getElem?_eq_none (by simpa using h), List.getElem?_eq_none (by omega)]
    rfl
theorem cut_map (ns : List Int) (lo hi : Option Int) : DL.cutD (ns.map D.int) lo hi = (DL.cutD ns lo hi).map D.int := by
  unfold DL.cutD
  rw [List.length_map, ← List.map_drop, ← List.map_take]
theorem cut_le (ns : List Int) (lo hi : Option Int) : (DL.cutD ns lo hi).length ≤ ns.length := by
  unfold DL.cutD
  rw [List.length_take, List.length_drop]
  omega
theorem form_cl (a b c : Int) (ns : List Int) : clR 2 (.lst [.int a, .int b, .int c, il ns]) = true := by
  show ([D.int a, .int b, .int c, il ns].all (clR 1)) = true
  have h : clR 1 (il ns) = true := by
    show (ns.map D.int).all (clR 0) = true
    rw [List.all_map, List.all_eq_true]
    intro x _
    rfl
  simp only [List.all_cons, List.all_nil, Bool.and_true, h]
  rfl
theorem pure_law {K : Fr0} {mg : Str → Option Value} (T : Txt K mg) (ds : List D) (m : M) (Q : D → M → Prop) (E : XD → M → Prop) (h : spLaw ds m Q E) : t_law K (fun x _ m => E x m) { nx := fun _ m => Q .non m, rt := Q } (startD nm_law ds) m := by
  obtain ⟨ns, rfl, hn, rfl, q⟩ := h
  show t_law K _ _ [some (.rdl (ns.map D.int)), none, none, none, none, none, none, none, none, none, none, none, none, none, none, none] m0
  unfold t_law
  try simp only [dSeq]
  try simp only [dIfS, dTest, dOp, dVar, dC, dCB, daCons, daNil, dSet, dRet, dNext, dDrop, dAsg, dPar, dAug, dAddI, dBreak, dCont, dRetN, slot, dLen, dCmpI, dSub, dAdd, dMul, dDiv, dMod, dPow, dNeg, dUn, dIx, dInt1, dAbs, dChain, dAnd, dOr, dNot, dAndV, dOrV, dNotV, dTru, dTruB, dIf, dTup, dLst, mkL, dSlice, dSl, doNone, doSome, dSum, dAll, dAny, dList, dTuple, dMax, dMin, eq_ii, ne_ii, eq_ss, ne_ss, eq_bb, ne_bb, eq_nn, ne_nn, dIsN, dNotN, dIsB, dNotB, gN, gT, gsNil, gsCons, gSet, dBM, dAppend, dClear, dFld, dFldS, dProp, dCall, dMeth, dMake, dCallO, dFor, dLc, diR1, diR2, diL, diT, diRv, diS, diE, dFmt, dFStr, dJs, dCallN, dFrzE, frz_l, in_ss, notin_ss, drR1, drR2, dListR, dRaise, dRaise0, dTryAs, dTry, dXf, dAddO, dInO, isL, insOf, Option.some.injEq, List.cons.injEq, D.int.injEq, D.bl.injEq, D.str.injEq, D.lst.injEq, D.tup.injEq, D.ref.injEq, MO.lst.injEq, MO.ins.injEq, mset_mset, and_true, true_and, and_self, and_assoc, exists_eq_left', exists_eq_left, exists_and_left, exists_and_right, exists_eq', List.set_cons_zero, List.set_cons_succ, decide_eq_true_eq, sqOf, lsOf, List.length_cons, List.length_nil, sizeLine_eq, List.append_nil, List.cons_append, List.nil_append, if_true, if_false, Bool.false_eq_true, reduceCtorEq, reduceIte, Nat.reduceAdd, Nat.reduceLeDiff, mset_same, Option.bind_some, List.length_map, Prod.mk.injEq, at0, at1, at2, at3, ix30, ix31, ix32, ix20, ix21, ix10, isi_ii, isi_ib, isi_ll, isi_bb, isi_ss, isi_tt, isi_is, isi_si, Bool.not_true, Bool.not_false]
  refine ⟨ns, 0, rfl, by omega, ?_⟩
  try simp only [dIfS, dTest, dOp, dVar, dC, dCB, daCons, daNil, dSet, dRet, dNext, dDrop, dAsg, dPar, dAug, dAddI, dBreak, dCont, dRetN, slot, dLen, dCmpI, dSub, dAdd, dMul, dDiv, dMod, dPow, dNeg, dUn, dIx, dInt1, dAbs, dChain, dAnd, dOr, dNot, dAndV, dOrV, dNotV, dTru, dTruB, dIf, dTup, dLst, mkL, dSlice, dSl, doNone, doSome, dSum, dAll, dAny, dList, dTuple, dMax, dMin, eq_ii, ne_ii, eq_ss, ne_ss, eq_bb, ne_bb, eq_nn, ne_nn, dIsN, dNotN, dIsB, dNotB, gN, gT, gsNil, gsCons, gSet, dBM, dAppend, dClear, dFld, dFldS, dProp, dCall, dMeth, dMake, dCallO, dFor, dLc, diR1, diR2, diL, diT, diRv, diS, diE, dFmt, dFStr, dJs, dCallN, dFrzE, frz_l, in_ss, notin_ss, drR1, drR2, dListR, dRaise, dRaise0, dTryAs, dTry, dXf, dAddO, dInO, isL, insOf, Option.some.injEq, List.cons.injEq, D.int.injEq, D.bl.injEq, D.str.injEq, D.lst.injEq, D.tup.injEq, D.ref.injEq, MO.lst.injEq, MO.ins.injEq, mset_mset, and_true, true_and, and_self, and_assoc, exists_eq_left', exists_eq_left, exists_and_left, exists_and_right, exists_eq', List.set_cons_zero, List.set_cons_succ, decide_eq_true_eq, sqOf, lsOf, List.length_cons, List.length_nil, sizeLine_eq, List.append_nil, List.cons_append, List.nil_append, if_true, if_false, Bool.false_eq_true, reduceCtorEq, reduceIte, Nat.reduceAdd, Nat.reduceLeDiff, mset_same, Option.bind_some, List.length_map, Prod.mk.injEq, at0, at1, at2, at3, ix30, ix31, ix32, ix20, ix21, ix10, isi_ii, isi_ib, isi_ll, isi_bb, isi_ss, isi_tt, isi_is, isi_si, Bool.not_true, Bool.not_false]
  refine ⟨_, rfl, fun a ha => ?_⟩
  try simp only [dSeq]
  try simp only [dIfS, dTest, dOp, dVar, dC, dCB, daCons, daNil, dSet, dRet, dNext, dDrop, dAsg, dPar, dAug, dAddI, dBreak, dCont, dRetN, slot, dLen, dCmpI, dSub, dAdd, dMul, dDiv, dMod, dPow, dNeg, dUn, dIx, dInt1, dAbs, dChain, dAnd, dOr, dNot, dAndV, dOrV, dNotV, dTru, dTruB, dIf, dTup, dLst, mkL, dSlice, dSl, doNone, doSome, dSum, dAll, dAny, dList, dTuple, dMax, dMin, eq_ii, ne_ii, eq_ss, ne_ss, eq_bb, ne_bb, eq_nn, ne_nn, dIsN, dNotN, dIsB, dNotB, gN, gT, gsNil, gsCons, gSet, dBM, dAppend, dClear, dFld, dFldS, dProp, dCall, dMeth, dMake, dCallO, dFor, dLc, diR1, diR2, diL, diT, diRv, diS, diE, dFmt, dFStr, dJs, dCallN, dFrzE, frz_l, in_ss, notin_ss, drR1, drR2, dListR, dRaise, dRaise0, dTryAs, dTry, dXf, dAddO, dInO, isL, insOf, Option.some.injEq, List.cons.injEq, D.int.injEq, D.bl.injEq, D.str.injEq, D.lst.injEq, D.tup.injEq, D.ref.injEq, MO.lst.injEq, MO.ins.injEq, mset_mset, and_true, true_and, and_self, and_assoc, exists_eq_left', exists_eq_left, exists_and_left, exists_and_right, exists_eq', List.set_cons_zero, List.set_cons_succ, decide_eq_true_eq, sqOf, lsOf, List.length_cons, List.length_nil, sizeLine_eq, List.append_nil, List.cons_append, List.nil_append, if_true, if_false, Bool.false_eq_true, reduceCtorEq, reduceIte, Nat.reduceAdd, Nat.reduceLeDiff, mset_same, Option.bind_some, List.length_map, Prod.mk.injEq, at0, at1, at2, at3, ix30, ix31, ix32, ix20, ix21, ix10, isi_ii, isi_ib, isi_ll, isi_bb, isi_ss, isi_tt, isi_is, isi_si, Bool.not_true, Bool.not_false]
  refine ⟨a, _, _, _, rfl, mset_same, ⟨by omega, by omega⟩, fun z v1 k1 hc g0 g1 => ?_⟩
  rw [mset_mset]
  obtain ⟨n1, n2, hat⟩ := cal_ok hc
  try simp only [dSeq]
  try simp only [dIfS, dTest, dOp, dVar, dC, dCB, daCons, daNil, dSet, dRet, dNext, dDrop, dAsg, dPar, dAug, dAddI, dBreak, dCont, dRetN, slot, dLen, dCmpI, dSub, dAdd, dMul, dDiv, dMod, dPow, dNeg, dUn, dIx, dInt1, dAbs, dChain, dAnd, dOr, dNot, dAndV, dOrV, dNotV, dTru, dTruB, dIf, dTup, dLst, mkL, dSlice, dSl, doNone, doSome, dSum, dAll, dAny, dList, dTuple, dMax, dMin, eq_ii, ne_ii, eq_ss, ne_ss, eq_bb, ne_bb, eq_nn, ne_nn, dIsN, dNotN, dIsB, dNotB, gN, gT, gsNil, gsCons, gSet, dBM, dAppend, dClear, dFld, dFldS, dProp, dCall, dMeth, dMake, dCallO, dFor, dLc, diR1, diR2, diL, diT, diRv, diS, diE, dFmt, dFStr, dJs, dCallN, dFrzE, frz_l, in_ss, notin_ss, drR1, drR2, dListR, dRaise, dRaise0, dTryAs, dTry, dXf, dAddO, dInO, isL, insOf, Option.some.injEq, List.cons.injEq, D.int.injEq, D.bl.injEq, D.str.injEq, D.lst.injEq, D.tup.injEq, D.ref.injEq, MO.lst.injEq, MO.ins.injEq, mset_mset, and_true, true_and, and_self, and_assoc, exists_eq_left', exists_eq_left, exists_and_left, exists_and_right, exists_eq', List.set_cons_zero, List.set_cons_succ, decide_eq_true_eq, sqOf, lsOf, List.length_cons, List.length_nil, sizeLine_eq, List.append_nil, List.cons_append, List.nil_append, if_true, if_false, Bool.false_eq_true, reduceCtorEq, reduceIte, Nat.reduceAdd, Nat.reduceLeDiff, mset_same, Option.bind_some, List.length_map, Prod.mk.injEq, at0, at1, at2, at3, ix30, ix31, ix32, ix20, ix21, ix10, isi_ii, isi_ib, isi_ll, isi_bb, isi_ss, isi_tt, isi_is, isi_si, Bool.not_true, Bool.not_false]
  refine draw_k (by omega) (by omega) (by omega) (by omega) (fun s0 v2 a2 b2 => ?_) mset_same
  rw [mset_mset]
  try simp only [dSeq]
  try simp only [dIfS, dTest, dOp, dVar, dC, dCB, daCons, daNil, dSet, dRet, dNext, dDrop, dAsg, dPar, dAug, dAddI, dBreak, dCont, dRetN, slot, dLen, dCmpI, dSub, dAdd, dMul, dDiv, dMod, dPow, dNeg, dUn, dIx, dInt1, dAbs, dChain, dAnd, dOr, dNot, dAndV, dOrV, dNotV, dTru, dTruB, dIf, dTup, dLst, mkL, dSlice, dSl, doNone, doSome, dSum, dAll, dAny, dList, dTuple, dMax, dMin, eq_ii, ne_ii, eq_ss, ne_ss, eq_bb, ne_bb, eq_nn, ne_nn, dIsN, dNotN, dIsB, dNotB, gN, gT, gsNil, gsCons, gSet, dBM, dAppend, dClear, dFld, dFldS, dProp, dCall, dMeth, dMake, dCallO, dFor, dLc, diR1, diR2, diL, diT, diRv, diS, diE, dFmt, dFStr, dJs, dCallN, dFrzE, frz_l, in_ss, notin_ss, drR1, drR2, dListR, dRaise, dRaise0, dTryAs, dTry, dXf, dAddO, dInO, isL, insOf, Option.some.injEq, List.cons.injEq, D.int.injEq, D.bl.injEq, D.str.injEq, D.lst.injEq, D.tup.injEq, D.ref.injEq, MO.lst.injEq, MO.ins.injEq, mset_mset, and_true, true_and, and_self, and_assoc, exists_eq_left', exists_eq_left, exists_and_left, exists_and_right, exists_eq', List.set_cons_zero, List.set_cons_succ, decide_eq_true_eq, sqOf, lsOf, List.length_cons, List.length_nil, sizeLine_eq, List.append_nil, List.cons_append, List.nil_append, if_true, if_false, Bool.false_eq_true, reduceCtorEq, reduceIte, Nat.reduceAdd, Nat.reduceLeDiff, mset_same, Option.bind_some, List.length_map, Prod.mk.injEq, at0, at1, at2, at3, ix30, ix31, ix32, ix20, ix21, ix10, isi_ii, isi_ib, isi_ll, isi_bb, isi_ss, isi_tt, isi_is, isi_si, Bool.not_true, Bool.not_false]
  refine ⟨a, _, _, _, z, 1 + s0, rfl, mset_same, ⟨by omega, by omega⟩, hc, ⟨by omega, by omega⟩, fun v3 k3 h1 h2 => ?_⟩
  rw [mset_mset]
  generalize mset m0 a _ = m
  obtain ⟨s, hs⟩ : ∃ s, s = 1 + s0 := ⟨_, rfl⟩
  rw [← hs]
  have s1 : 1 ≤ s := by omega
  have s2 : s ≤ 99 := by omega
  clear hs
  try simp only [dSeq]
  try simp only [dIfS, dTest, dOp, dVar, dC, dCB, daCons, daNil, dSet, dRet, dNext, dDrop, dAsg, dPar, dAug, dAddI, dBreak, dCont, dRetN, slot, dLen, dCmpI, dSub, dAdd, dMul, dDiv, dMod, dPow, dNeg, dUn, dIx, dInt1, dAbs, dChain, dAnd, dOr, dNot, dAndV, dOrV, dNotV, dTru, dTruB, dIf, dTup, dLst, mkL, dSlice, dSl, doNone, doSome, dSum, dAll, dAny, dList, dTuple, dMax, dMin, eq_ii, ne_ii, eq_ss, ne_ss, eq_bb, ne_bb, eq_nn, ne_nn, dIsN, dNotN, dIsB, dNotB, gN, gT, gsNil, gsCons, gSet, dBM, dAppend, dClear, dFld, dFldS, dProp, dCall, dMeth, dMake, dCallO, dFor, dLc, diR1, diR2, diL, diT, diRv, diS, diE, dFmt, dFStr, dJs, dCallN, dFrzE, frz_l, in_ss, notin_ss, drR1, drR2, dListR, dRaise, dRaise0, dTryAs, dTry, dXf, dAddO, dInO, isL, insOf, Option.some.injEq, List.cons.injEq, D.int.injEq, D.bl.injEq, D.str.injEq, D.lst.injEq, D.tup.injEq, D.ref.injEq, MO.lst.injEq, MO.ins.injEq, mset_mset, and_true, true_and, and_self, and_assoc, exists_eq_left', exists_eq_left, exists_and_left, exists_and_right, exists_eq', List.set_cons_zero, List.set_cons_succ, decide_eq_true_eq, sqOf, lsOf, List.length_cons, List.length_nil, sizeLine_eq, List.append_nil, List.cons_append, List.nil_append, if_true, if_false, Bool.false_eq_true, reduceCtorEq, reduceIte, Nat.reduceAdd, Nat.reduceLeDiff, mset_same, Option.bind_some, List.length_map, Prod.mk.injEq, at0, at1, at2, at3, ix30, ix31, ix32, ix20, ix21, ix10, isi_ii, isi_ib, isi_ll, isi_bb, isi_ss, isi_tt, isi_is, isi_si, Bool.not_true, Bool.not_false]
  refine ⟨z, s, rfl, by omega, (fun h => absurd (h.symm.trans hc) Bool.false_ne_true), (fun _ h => absurd ⟨s1, s2⟩ h), fun _ _ _ cs L R S hl hcs nf hS hL hR => ?_⟩
  try simp only [dSeq]
  try simp only [dIfS, dTest, dOp, dVar, dC, dCB, daCons, daNil, dSet, dRet, dNext, dDrop, dAsg, dPar, dAug, dAddI, dBreak, dCont, dRetN, slot, dLen, dCmpI, dSub, dAdd, dMul, dDiv, dMod, dPow, dNeg, dUn, dIx, dInt1, dAbs, dChain, dAnd, dOr, dNot, dAndV, dOrV, dNotV, dTru, dTruB, dIf, dTup, dLst, mkL, dSlice, dSl, doNone, doSome, dSum, dAll, dAny, dList, dTuple, dMax, dMin, eq_ii, ne_ii, eq_ss, ne_ss, eq_bb, ne_bb, eq_nn, ne_nn, dIsN, dNotN, dIsB, dNotB, gN, gT, gsNil, gsCons, gSet, dBM, dAppend, dClear, dFld, dFldS, dProp, dCall, dMeth, dMake, dCallO, dFor, dLc, diR1, diR2, diL, diT, diRv, diS, diE, dFmt, dFStr, dJs, dCallN, dFrzE, frz_l, in_ss, notin_ss, drR1, drR2, dListR, dRaise, dRaise0, dTryAs, dTry, dXf, dAddO, dInO, isL, insOf, Option.some.injEq, List.cons.injEq, D.int.injEq, D.bl.injEq, D.str.injEq, D.lst.injEq, D.tup.injEq, D.ref.injEq, MO.lst.injEq, MO.ins.injEq, mset_mset, and_true, true_and, and_self, and_assoc, exists_eq_left', exists_eq_left, exists_and_left, exists_and_right, exists_eq', List.set_cons_zero, List.set_cons_succ, decide_eq_true_eq, sqOf, lsOf, List.length_cons, List.length_nil, sizeLine_eq, List.append_nil, List.cons_append, List.nil_append, if_true, if_false, Bool.false_eq_true, reduceCtorEq, reduceIte, Nat.reduceAdd, Nat.reduceLeDiff, mset_same, Option.bind_some, List.length_map, Prod.mk.injEq, at0, at1, at2, at3, ix30, ix31, ix32, ix20, ix21, ix10, isi_ii, isi_ib, isi_ll, isi_bb, isi_ss, isi_tt, isi_is, isi_si, Bool.not_true, Bool.not_false]
  refine ⟨z, 1, rfl, by omega, (fun h => absurd (h.symm.trans hc) Bool.false_ne_true), (fun _ h => absurd ⟨by omega, by omega⟩ h), fun _ _ _ cs' L' R' S' hl' hcs' nf' hS' hL' hR' => ?_⟩
  try simp only [dSeq]
  try simp only [dIfS, dTest, dOp, dVar, dC, dCB, daCons, daNil, dSet, dRet, dNext, dDrop, dAsg, dPar, dAug, dAddI, dBreak, dCont, dRetN, slot, dLen, dCmpI, dSub, dAdd, dMul, dDiv, dMod, dPow, dNeg, dUn, dIx, dInt1, dAbs, dChain, dAnd, dOr, dNot, dAndV, dOrV, dNotV, dTru, dTruB, dIf, dTup, dLst, mkL, dSlice, dSl, doNone, doSome, dSum, dAll, dAny, dList, dTuple, dMax, dMin, eq_ii, ne_ii, eq_ss, ne_ss, eq_bb, ne_bb, eq_nn, ne_nn, dIsN, dNotN, dIsB, dNotB, gN, gT, gsNil, gsCons, gSet, dBM, dAppend, dClear, dFld, dFldS, dProp, dCall, dMeth, dMake, dCallO, dFor, dLc, diR1, diR2, diL, diT, diRv, diS, diE, dFmt, dFStr, dJs, dCallN, dFrzE, frz_l, in_ss, notin_ss, drR1, drR2, dListR, dRaise, dRaise0, dTryAs, dTry, dXf, dAddO, dInO, isL, insOf, Option.some.injEq, List.cons.injEq, D.int.injEq, D.bl.injEq, D.str.injEq, D.lst.injEq, D.tup.injEq, D.ref.injEq, MO.lst.injEq, MO.ins.injEq, mset_mset, and_true, true_and, and_self, and_assoc, exists_eq_left', exists_eq_left, exists_and_left, exists_and_right, exists_eq', List.set_cons_zero, List.set_cons_succ, decide_eq_true_eq, sqOf, lsOf, List.length_cons, List.length_nil, sizeLine_eq, List.append_nil, List.cons_append, List.nil_append, if_true, if_false, Bool.false_eq_true, reduceCtorEq, reduceIte, Nat.reduceAdd, Nat.reduceLeDiff, mset_same, Option.bind_some, List.length_map, Prod.mk.injEq, at0, at1, at2, at3, ix30, ix31, ix32, ix20, ix21, ix10, isi_ii, isi_ib, isi_ll, isi_bb, isi_ss, isi_tt, isi_is, isi_si, Bool.not_true, Bool.not_false, rowD, isi_own T.ci_Row T.kit_Row]
  have hcnt := cnt_le z
  have hg : (s * cntS z).natAbs ≤ 1000000 := by
    have h1 : s * cntS z ≤ 99 * 25 := Int.mul_le_mul s2 (by omega) (by omega) (by omega)
    have h0 : 0 ≤ s * cntS z := Int.mul_nonneg (by omega) (by omega)
    omega
  have hv := row_val n1 hl hcs
  have hv' := row_val n1 hl' hcs'
  have hback := cs_back (s := s) hl
  obtain ⟨x0, hx0, _⟩ := hcs 0 (by omega)
  have hx00 := low_zero n1 hx0
  subst hx00
  have hvn : val cs z.length (s * cntS z) z.length = s * cntS z := by
    have h0 : IsLow z z.length (((z.length / z.length : Nat) : Int) * cntS z + 0) := low_mod n1 (by rw [Nat.mod_self]; exact hx0)
    rw [hv _ h0, Nat.div_self (by omega)]
    simp
  have hv0 : val cs z.length (s * cntS z) 0 = 0 := by rw [hv 0 hx0]; simp
  have hsz : ∀ t : Nat, t < 2 ^ 200 → Sz (t : Int) := fun t ht => by
    unfold Sz
    rw [Int.natAbs_natCast]
    exact Nat.lt_of_lt_of_le ht (Nat.pow_le_pow_right (by omega) (by omega))
  have rk : Rk (val cs z.length (s * cntS z)) L R S := ⟨nf.pos, nf.per, by omega, sz_small (by omega)⟩
  have rk' : Rk (val cs' z.length (1 * cntS z)) L' R' S' := ⟨nf'.pos, nf'.per, by omega, sz_small (by omega)⟩
  have vcs := fun g => val cs z.length g
  try simp only [dSeq]
  try simp only [dIfS, dTest, dOp, dVar, dC, dCB, daCons, daNil, dSet, dRet, dNext, dDrop, dAsg, dPar, dAug, dAddI, dBreak, dCont, dRetN, slot, dLen, dCmpI, dSub, dAdd, dMul, dDiv, dMod, dPow, dNeg, dUn, dIx, dInt1, dAbs, dChain, dAnd, dOr, dNot, dAndV, dOrV, dNotV, dTru, dTruB, dIf, dTup, dLst, mkL, dSlice, dSl, doNone, doSome, dSum, dAll, dAny, dList, dTuple, dMax, dMin, eq_ii, ne_ii, eq_ss, ne_ss, eq_bb, ne_bb, eq_nn, ne_nn, dIsN, dNotN, dIsB, dNotB, gN, gT, gsNil, gsCons, gSet, dBM, dAppend, dClear, dFld, dFldS, dProp, dCall, dMeth, dMake, dCallO, dFor, dLc, diR1, diR2, diL, diT, diRv, diS, diE, dFmt, dFStr, dJs, dCallN, dFrzE, frz_l, in_ss, notin_ss, drR1, drR2, dListR, dRaise, dRaise0, dTryAs, dTry, dXf, dAddO, dInO, isL, insOf, Option.some.injEq, List.cons.injEq, D.int.injEq, D.bl.injEq, D.str.injEq, D.lst.injEq, D.tup.injEq, D.ref.injEq, MO.lst.injEq, MO.ins.injEq, mset_mset, and_true, true_and, and_self, and_assoc, exists_eq_left', exists_eq_left, exists_and_left, exists_and_right, exists_eq', List.set_cons_zero, List.set_cons_succ, decide_eq_true_eq, sqOf, lsOf, List.length_cons, List.length_nil, sizeLine_eq, List.append_nil, List.cons_append, List.nil_append, if_true, if_false, Bool.false_eq_true, reduceCtorEq, reduceIte, Nat.reduceAdd, Nat.reduceLeDiff, mset_same, Option.bind_some, List.length_map, Prod.mk.injEq, at0, at1, at2, at3, ix30, ix31, ix32, ix20, ix21, ix10, isi_ii, isi_ib, isi_ll, isi_bb, isi_ss, isi_tt, isi_is, isi_si, Bool.not_true, Bool.not_false]
  refine ⟨by omega, ?_⟩
  try simp only [dSeq]
  try simp only [dIfS, dTest, dOp, dVar, dC, dCB, daCons, daNil, dSet, dRet, dNext, dDrop, dAsg, dPar, dAug, dAddI, dBreak, dCont, dRetN, slot, dLen, dCmpI, dSub, dAdd, dMul, dDiv, dMod, dPow, dNeg, dUn, dIx, dInt1, dAbs, dChain, dAnd, dOr, dNot, dAndV, dOrV, dNotV, dTru, dTruB, dIf, dTup, dLst, mkL, dSlice, dSl, doNone, doSome, dSum, dAll, dAny, dList, dTuple, dMax, dMin, eq_ii, ne_ii, eq_ss, ne_ss, eq_bb, ne_bb, eq_nn, ne_nn, dIsN, dNotN, dIsB, dNotB, gN, gT, gsNil, gsCons, gSet, dBM, dAppend, dClear, dFld, dFldS, dProp, dCall, dMeth, dMake, dCallO, dFor, dLc, diR1, diR2, diL, diT, diRv, diS, diE, dFmt, dFStr, dJs, dCallN, dFrzE, frz_l, in_ss, notin_ss, drR1, drR2, dListR, dRaise, dRaise0, dTryAs, dTry, dXf, dAddO, dInO, isL, insOf, Option.some.injEq, List.cons.injEq, D.int.injEq, D.bl.injEq, D.str.injEq, D.lst.injEq, D.tup.injEq, D.ref.injEq, MO.lst.injEq, MO.ins.injEq, mset_mset, and_true, true_and, and_self, and_assoc, exists_eq_left', exists_eq_left, exists_and_left, exists_and_right, exists_eq', List.set_cons_zero, List.set_cons_succ, decide_eq_true_eq, sqOf, lsOf, List.length_cons, List.length_nil, sizeLine_eq, List.append_nil, List.cons_append, List.nil_append, if_true, if_false, Bool.false_eq_true, reduceCtorEq, reduceIte, Nat.reduceAdd, Nat.reduceLeDiff, mset_same, Option.bind_some, List.length_map, Prod.mk.injEq, at0, at1, at2, at3, ix30, ix31, ix32, ix20, ix21, ix10, isi_ii, isi_ib, isi_ll, isi_bb, isi_ss, isi_tt, isi_is, isi_si, Bool.not_true, Bool.not_false]
  refine ⟨by omega, by omega, ?_⟩
  rw [Int.toNat_natCast]
  refine lc_rng (fun k => .int (val cs z.length (s * cntS z) k)) (by rw [sizeLine_eq]; omega) (fun k hk Q' q' => ?_) ?_
  · simp only [wipeD]
    try simp only [dIfS, dTest, dOp, dVar, dC, dCB, daCons, daNil, dSet, dRet, dNext, dDrop, dAsg, dPar, dAug, dAddI, dBreak, dCont, dRetN, slot, dLen, dCmpI, dSub, dAdd, dMul, dDiv, dMod, dPow, dNeg, dUn, dIx, dInt1, dAbs, dChain, dAnd, dOr, dNot, dAndV, dOrV, dNotV, dTru, dTruB, dIf, dTup, dLst, mkL, dSlice, dSl, doNone, doSome, dSum, dAll, dAny, dList, dTuple, dMax, dMin, eq_ii, ne_ii, eq_ss, ne_ss, eq_bb, ne_bb, eq_nn, ne_nn, dIsN, dNotN, dIsB, dNotB, gN, gT, gsNil, gsCons, gSet, dBM, dAppend, dClear, dFld, dFldS, dProp, dCall, dMeth, dMake, dCallO, dFor, dLc, diR1, diR2, diL, diT, diRv, diS, diE, dFmt, dFStr, dJs, dCallN, dFrzE, frz_l, in_ss, notin_ss, drR1, drR2, dListR, dRaise, dRaise0, dTryAs, dTry, dXf, dAddO, dInO, isL, insOf, Option.some.injEq, List.cons.injEq, D.int.injEq, D.bl.injEq, D.str.injEq, D.lst.injEq, D.tup.injEq, D.ref.injEq, MO.lst.injEq, MO.ins.injEq, mset_mset, and_true, true_and, and_self, and_assoc, exists_eq_left', exists_eq_left, exists_and_left, exists_and_right, exists_eq', List.set_cons_zero, List.set_cons_succ, decide_eq_true_eq, sqOf, lsOf, List.length_cons, List.length_nil, sizeLine_eq, List.append_nil, List.cons_append, List.nil_append, if_true, if_false, Bool.false_eq_true, reduceCtorEq, reduceIte, Nat.reduceAdd, Nat.reduceLeDiff, mset_same, Option.bind_some, List.length_map, Prod.mk.injEq, at0, at1, at2, at3, ix30, ix31, ix32, ix20, ix21, ix10, isi_ii, isi_ib, isi_ll, isi_bb, isi_ss, isi_tt, isi_is, isi_si, Bool.not_true, Bool.not_false]
    refine call_k rk (by omega) (by rw [Int.zero_add]; exact hsz k (Nat.lt_of_lt_of_le (show k < 2 ^ 5 by omega) (Nat.pow_le_pow_right (by omega) (by omega)))) ?_
    rw [show (0 + (k : Int)).toNat = k by omega]
    exact q'
  try simp only [dIfS, dTest, dOp, dVar, dC, dCB, daCons, daNil, dSet, dRet, dNext, dDrop, dAsg, dPar, dAug, dAddI, dBreak, dCont, dRetN, slot, dLen, dCmpI, dSub, dAdd, dMul, dDiv, dMod, dPow, dNeg, dUn, dIx, dInt1, dAbs, dChain, dAnd, dOr, dNot, dAndV, dOrV, dNotV, dTru, dTruB, dIf, dTup, dLst, mkL, dSlice, dSl, doNone, doSome, dSum, dAll, dAny, dList, dTuple, dMax, dMin, eq_ii, ne_ii, eq_ss, ne_ss, eq_bb, ne_bb, eq_nn, ne_nn, dIsN, dNotN, dIsB, dNotB, gN, gT, gsNil, gsCons, gSet, dBM, dAppend, dClear, dFld, dFldS, dProp, dCall, dMeth, dMake, dCallO, dFor, dLc, diR1, diR2, diL, diT, diRv, diS, diE, dFmt, dFStr, dJs, dCallN, dFrzE, frz_l, in_ss, notin_ss, drR1, drR2, dListR, dRaise, dRaise0, dTryAs, dTry, dXf, dAddO, dInO, isL, insOf, Option.some.injEq, List.cons.injEq, D.int.injEq, D.bl.injEq, D.str.injEq, D.lst.injEq, D.tup.injEq, D.ref.injEq, MO.lst.injEq, MO.ins.injEq, mset_mset, and_true, true_and, and_self, and_assoc, exists_eq_left', exists_eq_left, exists_and_left, exists_and_right, exists_eq', List.set_cons_zero, List.set_cons_succ, decide_eq_true_eq, sqOf, lsOf, List.length_cons, List.length_nil, sizeLine_eq, List.append_nil, List.cons_append, List.nil_append, if_true, if_false, Bool.false_eq_true, reduceCtorEq, reduceIte, Nat.reduceAdd, Nat.reduceLeDiff, mset_same, Option.bind_some, List.length_map, Prod.mk.injEq, at0, at1, at2, at3, ix30, ix31, ix32, ix20, ix21, ix10, isi_ii, isi_ib, isi_ll, isi_bb, isi_ss, isi_tt, isi_is, isi_si, Bool.not_true, Bool.not_false]
  refine call_k rk (by omega) (hsz _ (Nat.lt_of_lt_of_le (show z.length < 2 ^ 5 by omega) (Nat.pow_le_pow_right (by omega) (by omega)))) ?_
  rw [Int.toNat_natCast, hvn]
  intro b hb
  have hmap : List.map (fun k => D.int (val cs z.length (s * cntS z) k)) (List.range z.length) = cs.map D.int := by
    have := congrArg (List.map D.int) hback
    rw [List.map_map] at this
    exact this
  rw [hmap]
  refine init_row (cs := cs) (g := s * cntS z) (by omega) (by omega) (by omega) (sz_small hg) fun L2 R2 S2 nf2 h1 h2 h3 => ?_
  rw [Int.toNat_natCast] at nf2 ⊢
  obtain ⟨rfl, rfl, rfl⟩ := nf.unique nf2
  refine ⟨_, mset_same, ?_⟩
  rw [mdel_mset hb]
  generalize hV : val cs z.length (s * cntS z) = V at *
  generalize hW : val cs' z.length (1 * cntS z) = W at *
  try simp only [dSeq]
  try simp only [dIfS, dTest, dOp, dVar, dC, dCB, daCons, daNil, dSet, dRet, dNext, dDrop, dAsg, dPar, dAug, dAddI, dBreak, dCont, dRetN, slot, dLen, dCmpI, dSub, dAdd, dMul, dDiv, dMod, dPow, dNeg, dUn, dIx, dInt1, dAbs, dChain, dAnd, dOr, dNot, dAndV, dOrV, dNotV, dTru, dTruB, dIf, dTup, dLst, mkL, dSlice, dSl, doNone, doSome, dSum, dAll, dAny, dList, dTuple, dMax, dMin, eq_ii, ne_ii, eq_ss, ne_ss, eq_bb, ne_bb, eq_nn, ne_nn, dIsN, dNotN, dIsB, dNotB, gN, gT, gsNil, gsCons, gSet, dBM, dAppend, dClear, dFld, dFldS, dProp, dCall, dMeth, dMake, dCallO, dFor, dLc, diR1, diR2, diL, diT, diRv, diS, diE, dFmt, dFStr, dJs, dCallN, dFrzE, frz_l, in_ss, notin_ss, drR1, drR2, dListR, dRaise, dRaise0, dTryAs, dTry, dXf, dAddO, dInO, isL, insOf, Option.some.injEq, List.cons.injEq, D.int.injEq, D.bl.injEq, D.str.injEq, D.lst.injEq, D.tup.injEq, D.ref.injEq, MO.lst.injEq, MO.ins.injEq, mset_mset, and_true, true_and, and_self, and_assoc, exists_eq_left', exists_eq_left, exists_and_left, exists_and_right, exists_eq', List.set_cons_zero, List.set_cons_succ, decide_eq_true_eq, sqOf, lsOf, List.length_cons, List.length_nil, sizeLine_eq, List.append_nil, List.cons_append, List.nil_append, if_true, if_false, Bool.false_eq_true, reduceCtorEq, reduceIte, Nat.reduceAdd, Nat.reduceLeDiff, mset_same, Option.bind_some, List.length_map, Prod.mk.injEq, at0, at1, at2, at3, ix30, ix31, ix32, ix20, ix21, ix10, isi_ii, isi_ib, isi_ll, isi_bb, isi_ss, isi_tt, isi_is, isi_si, Bool.not_true, Bool.not_false, T.cl_Row, T.n_Row_cells, T.n_Row_period, T.n_Row_gain, T.n_Row_start, rowD, lk_cells, lk_period, lk_gain, lk_start]
  refine head_k ?_
  try simp only [dIfS, dTest, dOp, dVar, dC, dCB, daCons, daNil, dSet, dRet, dNext, dDrop, dAsg, dPar, dAug, dAddI, dBreak, dCont, dRetN, slot, dLen, dCmpI, dSub, dAdd, dMul, dDiv, dMod, dPow, dNeg, dUn, dIx, dInt1, dAbs, dChain, dAnd, dOr, dNot, dAndV, dOrV, dNotV, dTru, dTruB, dIf, dTup, dLst, mkL, dSlice, dSl, doNone, doSome, dSum, dAll, dAny, dList, dTuple, dMax, dMin, eq_ii, ne_ii, eq_ss, ne_ss, eq_bb, ne_bb, eq_nn, ne_nn, dIsN, dNotN, dIsB, dNotB, gN, gT, gsNil, gsCons, gSet, dBM, dAppend, dClear, dFld, dFldS, dProp, dCall, dMeth, dMake, dCallO, dFor, dLc, diR1, diR2, diL, diT, diRv, diS, diE, dFmt, dFStr, dJs, dCallN, dFrzE, frz_l, in_ss, notin_ss, drR1, drR2, dListR, dRaise, dRaise0, dTryAs, dTry, dXf, dAddO, dInO, isL, insOf, Option.some.injEq, List.cons.injEq, D.int.injEq, D.bl.injEq, D.str.injEq, D.lst.injEq, D.tup.injEq, D.ref.injEq, MO.lst.injEq, MO.ins.injEq, mset_mset, and_true, true_and, and_self, and_assoc, exists_eq_left', exists_eq_left, exists_and_left, exists_and_right, exists_eq', List.set_cons_zero, List.set_cons_succ, decide_eq_true_eq, sqOf, lsOf, List.length_cons, List.length_nil, sizeLine_eq, List.append_nil, List.cons_append, List.nil_append, if_true, if_false, Bool.false_eq_true, reduceCtorEq, reduceIte, Nat.reduceAdd, Nat.reduceLeDiff, mset_same, Option.bind_some, List.length_map, Prod.mk.injEq, at0, at1, at2, at3, ix30, ix31, ix32, ix20, ix21, ix10, isi_ii, isi_ib, isi_ll, isi_bb, isi_ss, isi_tt, isi_is, isi_si, Bool.not_true, Bool.not_false, T.cl_Row, T.n_Row_cells, T.n_Row_period, T.n_Row_gain, T.n_Row_start, rowD, lk_cells, lk_period, lk_gain, lk_start]
  refine head_k ?_
  refine dNe_refl (by omega) (form_cl _ _ _ _) ?_
  try simp only [dIfS, dTest, dOp, dVar, dC, dCB, daCons, daNil, dSet, dRet, dNext, dDrop, dAsg, dPar, dAug, dAddI, dBreak, dCont, dRetN, slot, dLen, dCmpI, dSub, dAdd, dMul, dDiv, dMod, dPow, dNeg, dUn, dIx, dInt1, dAbs, dChain, dAnd, dOr, dNot, dAndV, dOrV, dNotV, dTru, dTruB, dIf, dTup, dLst, mkL, dSlice, dSl, doNone, doSome, dSum, dAll, dAny, dList, dTuple, dMax, dMin, eq_ii, ne_ii, eq_ss, ne_ss, eq_bb, ne_bb, eq_nn, ne_nn, dIsN, dNotN, dIsB, dNotB, gN, gT, gsNil, gsCons, gSet, dBM, dAppend, dClear, dFld, dFldS, dProp, dCall, dMeth, dMake, dCallO, dFor, dLc, diR1, diR2, diL, diT, diRv, diS, diE, dFmt, dFStr, dJs, dCallN, dFrzE, frz_l, in_ss, notin_ss, drR1, drR2, dListR, dRaise, dRaise0, dTryAs, dTry, dXf, dAddO, dInO, isL, insOf, Option.some.injEq, List.cons.injEq, D.int.injEq, D.bl.injEq, D.str.injEq, D.lst.injEq, D.tup.injEq, D.ref.injEq, MO.lst.injEq, MO.ins.injEq, mset_mset, and_true, true_and, and_self, and_assoc, exists_eq_left', exists_eq_left, exists_and_left, exists_and_right, exists_eq', List.set_cons_zero, List.set_cons_succ, decide_eq_true_eq, sqOf, lsOf, List.length_cons, List.length_nil, sizeLine_eq, List.append_nil, List.cons_append, List.nil_append, if_true, if_false, Bool.false_eq_true, reduceCtorEq, reduceIte, Nat.reduceAdd, Nat.reduceLeDiff, mset_same, Option.bind_some, List.length_map, Prod.mk.injEq, at0, at1, at2, at3, ix30, ix31, ix32, ix20, ix21, ix10, isi_ii, isi_ib, isi_ll, isi_bb, isi_ss, isi_tt, isi_is, isi_si, Bool.not_true, Bool.not_false]
  try simp only [dSeq]
  try simp only [dIfS, dTest, dOp, dVar, dC, dCB, daCons, daNil, dSet, dRet, dNext, dDrop, dAsg, dPar, dAug, dAddI, dBreak, dCont, dRetN, slot, dLen, dCmpI, dSub, dAdd, dMul, dDiv, dMod, dPow, dNeg, dUn, dIx, dInt1, dAbs, dChain, dAnd, dOr, dNot, dAndV, dOrV, dNotV, dTru, dTruB, dIf, dTup, dLst, mkL, dSlice, dSl, doNone, doSome, dSum, dAll, dAny, dList, dTuple, dMax, dMin, eq_ii, ne_ii, eq_ss, ne_ss, eq_bb, ne_bb, eq_nn, ne_nn, dIsN, dNotN, dIsB, dNotB, gN, gT, gsNil, gsCons, gSet, dBM, dAppend, dClear, dFld, dFldS, dProp, dCall, dMeth, dMake, dCallO, dFor, dLc, diR1, diR2, diL, diT, diRv, diS, diE, dFmt, dFStr, dJs, dCallN, dFrzE, frz_l, in_ss, notin_ss, drR1, drR2, dListR, dRaise, dRaise0, dTryAs, dTry, dXf, dAddO, dInO, isL, insOf, Option.some.injEq, List.cons.injEq, D.int.injEq, D.bl.injEq, D.str.injEq, D.lst.injEq, D.tup.injEq, D.ref.injEq, MO.lst.injEq, MO.ins.injEq, mset_mset, and_true, true_and, and_self, and_assoc, exists_eq_left', exists_eq_left, exists_and_left, exists_and_right, exists_eq', List.set_cons_zero, List.set_cons_succ, decide_eq_true_eq, sqOf, lsOf, List.length_cons, List.length_nil, sizeLine_eq, List.append_nil, List.cons_append, List.nil_append, if_true, if_false, Bool.false_eq_true, reduceCtorEq, reduceIte, Nat.reduceAdd, Nat.reduceLeDiff, mset_same, Option.bind_some, List.length_map, Prod.mk.injEq, at0, at1, at2, at3, ix30, ix31, ix32, ix20, ix21, ix10, isi_ii, isi_ib, isi_ll, isi_bb, isi_ss, isi_tt, isi_is, isi_si, Bool.not_true, Bool.not_false]
  refine ⟨mul_small (by omega), by unfold RgOk; omega, mul_small (by omega), mul_small (by omega), by rw [rngD_len]; omega, ?_⟩
  generalize hnear : rngD 0 (2 * (z.length : Int) - 0).toNat ++ [D.int (3 * (z.length : Int) - 1), D.int (3 * (z.length : Int))] = near
  have hnr : near.length ≤ 1000 ∧ ∀ d ∈ near, ∃ t : Nat, d = .int t ∧ t < 2 ^ 200 := by
    have hbig : (100 : Nat) ≤ 2 ^ 200 := Nat.le_trans (show 100 ≤ 2 ^ 7 by omega) (Nat.pow_le_pow_right (by omega) (by omega))
    rw [← hnear]
    refine ⟨by rw [List.length_append, rngD_len]; simp only [List.length_cons, List.length_nil]; omega, fun d hd => ?_⟩
    rcases List.mem_append.mp hd with h | h
    · obtain ⟨k, hk, rfl⟩ := rng_mem h
      exact ⟨k, by simp, by omega⟩
    · simp only [List.mem_cons, List.not_mem_nil, or_false] at h
      rcases h with rfl | rfl
      · exact ⟨3 * z.length - 1, by congr 1; omega, by omega⟩
      · exact ⟨3 * z.length, by simp, by omega⟩
  clear hnear
  try simp only [dSeq]
  try simp only [dIfS, dTest, dOp, dVar, dC, dCB, daCons, daNil, dSet, dRet, dNext, dDrop, dAsg, dPar, dAug, dAddI, dBreak, dCont, dRetN, slot, dLen, dCmpI, dSub, dAdd, dMul, dDiv, dMod, dPow, dNeg, dUn, dIx, dInt1, dAbs, dChain, dAnd, dOr, dNot, dAndV, dOrV, dNotV, dTru, dTruB, dIf, dTup, dLst, mkL, dSlice, dSl, doNone, doSome, dSum, dAll, dAny, dList, dTuple, dMax, dMin, eq_ii, ne_ii, eq_ss, ne_ss, eq_bb, ne_bb, eq_nn, ne_nn, dIsN, dNotN, dIsB, dNotB, gN, gT, gsNil, gsCons, gSet, dBM, dAppend, dClear, dFld, dFldS, dProp, dCall, dMeth, dMake, dCallO, dFor, dLc, diR1, diR2, diL, diT, diRv, diS, diE, dFmt, dFStr, dJs, dCallN, dFrzE, frz_l, in_ss, notin_ss, drR1, drR2, dListR, dRaise, dRaise0, dTryAs, dTry, dXf, dAddO, dInO, isL, insOf, Option.some.injEq, List.cons.injEq, D.int.injEq, D.bl.injEq, D.str.injEq, D.lst.injEq, D.tup.injEq, D.ref.injEq, MO.lst.injEq, MO.ins.injEq, mset_mset, and_true, true_and, and_self, and_assoc, exists_eq_left', exists_eq_left, exists_and_left, exists_and_right, exists_eq', List.set_cons_zero, List.set_cons_succ, decide_eq_true_eq, sqOf, lsOf, List.length_cons, List.length_nil, sizeLine_eq, List.append_nil, List.cons_append, List.nil_append, if_true, if_false, Bool.false_eq_true, reduceCtorEq, reduceIte, Nat.reduceAdd, Nat.reduceLeDiff, mset_same, Option.bind_some, List.length_map, Prod.mk.injEq, at0, at1, at2, at3, ix30, ix31, ix32, ix20, ix21, ix10, isi_ii, isi_ib, isi_ll, isi_bb, isi_ss, isi_tt, isi_is, isi_si, Bool.not_true, Bool.not_false]
  rw [cut_map]
  have hcl := cut_le ns (some 1) (some 9)
  generalize DL.cutD ns (some 1) (some 9) = far at *
  refine lc_ints (fun x => .int (x % 10 ^ 40)) (by rw [sizeLine_eq]; omega) (fun x _ Q' q' => ?_) ?_
  · simp only [wipeD]
    try simp only [dIfS, dTest, dOp, dVar, dC, dCB, daCons, daNil, dSet, dRet, dNext, dDrop, dAsg, dPar, dAug, dAddI, dBreak, dCont, dRetN, slot, dLen, dCmpI, dSub, dAdd, dMul, dDiv, dMod, dPow, dNeg, dUn, dIx, dInt1, dAbs, dChain, dAnd, dOr, dNot, dAndV, dOrV, dNotV, dTru, dTruB, dIf, dTup, dLst, mkL, dSlice, dSl, doNone, doSome, dSum, dAll, dAny, dList, dTuple, dMax, dMin, eq_ii, ne_ii, eq_ss, ne_ss, eq_bb, ne_bb, eq_nn, ne_nn, dIsN, dNotN, dIsB, dNotB, gN, gT, gsNil, gsCons, gSet, dBM, dAppend, dClear, dFld, dFldS, dProp, dCall, dMeth, dMake, dCallO, dFor, dLc, diR1, diR2, diL, diT, diRv, diS, diE, dFmt, dFStr, dJs, dCallN, dFrzE, frz_l, in_ss, notin_ss, drR1, drR2, dListR, dRaise, dRaise0, dTryAs, dTry, dXf, dAddO, dInO, isL, insOf, Option.some.injEq, List.cons.injEq, D.int.injEq, D.bl.injEq, D.str.injEq, D.lst.injEq, D.tup.injEq, D.ref.injEq, MO.lst.injEq, MO.ins.injEq, mset_mset, and_true, true_and, and_self, and_assoc, exists_eq_left', exists_eq_left, exists_and_left, exists_and_right, exists_eq', List.set_cons_zero, List.set_cons_succ, decide_eq_true_eq, sqOf, lsOf, List.length_cons, List.length_nil, sizeLine_eq, List.append_nil, List.cons_append, List.nil_append, if_true, if_false, Bool.false_eq_true, reduceCtorEq, reduceIte, Nat.reduceAdd, Nat.reduceLeDiff, mset_same, Option.bind_some, List.length_map, Prod.mk.injEq, at0, at1, at2, at3, ix30, ix31, ix32, ix20, ix21, ix10, isi_ii, isi_ib, isi_ll, isi_bb, isi_ss, isi_tt, isi_is, isi_si, Bool.not_true, Bool.not_false]
    refine ⟨⟨by omega, by omega, by decide⟩, by decide +kernel, ?_⟩
    exact q'
  refine ⟨by rw [List.length_map]; omega, ?_⟩
  have hall : ∀ d ∈ near ++ far.map (fun x => D.int (x % 10 ^ 40)), ∃ t : Nat, d = .int t ∧ t < 2 ^ 200 := by
    intro d hd
    rcases List.mem_append.mp hd with h | h
    · exact hnr.2 d h
    · obtain ⟨x, _, rfl⟩ := List.mem_map.mp h
      have h1 : (10 : Int) ^ 40 < 2 ^ 200 := by decide +kernel
      have h0 : (0 : Int) < 10 ^ 40 := by decide +kernel
      have e1 := Int.emod_nonneg x (show (10 : Int) ^ 40 ≠ 0 by omega)
      have e2 := Int.emod_lt_of_pos x h0
      refine ⟨(x % 10 ^ 40).toNat, by rw [Int.toNat_of_nonneg e1], ?_⟩
      have : ((2 ^ 200 : Nat) : Int) = (2 : Int) ^ 200 := by decide +kernel
      omega
  generalize near ++ far.map (fun x => D.int (x % 10 ^ 40)) = all at *
  obtain ⟨P, hP⟩ : ∃ P : Nat → DSt → M → Prop, ∀ j r m', P j r m' ↔ m' = m ∧ ∃ o10 o11 o12 o13 o14 o15, r = [some (D.rdl (ns.map D.int)), some (.ref a), some (.str z), some (.int s), some (.ins (ga K "Row") (rowF V L R S)), some (.ins (ga K "Row") (rowF W L' R' S')), some (.int (z.length : Nat)), some (.ins (ga K "Row") (rowF V L R S)), none, some (.lst near), o10, o11, o12, o13, o14, o15] := ⟨_, fun _ _ _ => Iff.rfl⟩
  refine ⟨P, (hP _ _ _).mpr ⟨rfl, _, _, _, _, _, _, rfl⟩, ?_, ?_⟩
  · intro j d r m' hd hp
    obtain ⟨rfl, o10, o11, o12, o13, o14, o15, rfl⟩ := (hP _ _ _).mp hp
    obtain ⟨t, rfl, ht⟩ := hall d (List.mem_of_getElem? hd)
    try simp only [dSeq]
    try simp only [dIfS, dTest, dOp, dVar, dC, dCB, daCons, daNil, dSet, dRet, dNext, dDrop, dAsg, dPar, dAug, dAddI, dBreak, dCont, dRetN, slot, dLen, dCmpI, dSub, dAdd, dMul, dDiv, dMod, dPow, dNeg, dUn, dIx, dInt1, dAbs, dChain, dAnd, dOr, dNot, dAndV, dOrV, dNotV, dTru, dTruB, dIf, dTup, dLst, mkL, dSlice, dSl, doNone, doSome, dSum, dAll, dAny, dList, dTuple, dMax, dMin, eq_ii, ne_ii, eq_ss, ne_ss, eq_bb, ne_bb, eq_nn, ne_nn, dIsN, dNotN, dIsB, dNotB, gN, gT, gsNil, gsCons, gSet, dBM, dAppend, dClear, dFld, dFldS, dProp, dCall, dMeth, dMake, dCallO, dFor, dLc, diR1, diR2, diL, diT, diRv, diS, diE, dFmt, dFStr, dJs, dCallN, dFrzE, frz_l, in_ss, notin_ss, drR1, drR2, dListR, dRaise, dRaise0, dTryAs, dTry, dXf, dAddO, dInO, isL, insOf, Option.some.injEq, List.cons.injEq, D.int.injEq, D.bl.injEq, D.str.injEq, D.lst.injEq, D.tup.injEq, D.ref.injEq, MO.lst.injEq, MO.ins.injEq, mset_mset, and_true, true_and, and_self, and_assoc, exists_eq_left', exists_eq_left, exists_and_left, exists_and_right, exists_eq', List.set_cons_zero, List.set_cons_succ, decide_eq_true_eq, sqOf, lsOf, List.length_cons, List.length_nil, sizeLine_eq, List.append_nil, List.cons_append, List.nil_append, if_true, if_false, Bool.false_eq_true, reduceCtorEq, reduceIte, Nat.reduceAdd, Nat.reduceLeDiff, mset_same, Option.bind_some, List.length_map, Prod.mk.injEq, at0, at1, at2, at3, ix30, ix31, ix32, ix20, ix21, ix10, isi_ii, isi_ib, isi_ll, isi_bb, isi_ss, isi_tt, isi_is, isi_si, Bool.not_true, Bool.not_false]
    refine ⟨by omega, by omega, ?_⟩
    rw [Int.toNat_natCast]
    refine lc_rng (fun k => .int (opn z k t)) (by rw [sizeLine_eq]; omega) (fun k hk Q' q' => ?_) ?_
    · simp only [wipeD]
      try simp only [dIfS, dTest, dOp, dVar, dC, dCB, daCons, daNil, dSet, dRet, dNext, dDrop, dAsg, dPar, dAug, dAddI, dBreak, dCont, dRetN, slot, dLen, dCmpI, dSub, dAdd, dMul, dDiv, dMod, dPow, dNeg, dUn, dIx, dInt1, dAbs, dChain, dAnd, dOr, dNot, dAndV, dOrV, dNotV, dTru, dTruB, dIf, dTup, dLst, mkL, dSlice, dSl, doNone, doSome, dSum, dAll, dAny, dList, dTuple, dMax, dMin, eq_ii, ne_ii, eq_ss, ne_ss, eq_bb, ne_bb, eq_nn, ne_nn, dIsN, dNotN, dIsB, dNotB, gN, gT, gsNil, gsCons, gSet, dBM, dAppend, dClear, dFld, dFldS, dProp, dCall, dMeth, dMake, dCallO, dFor, dLc, diR1, diR2, diL, diT, diRv, diS, diE, dFmt, dFStr, dJs, dCallN, dFrzE, frz_l, in_ss, notin_ss, drR1, drR2, dListR, dRaise, dRaise0, dTryAs, dTry, dXf, dAddO, dInO, isL, insOf, Option.some.injEq, List.cons.injEq, D.int.injEq, D.bl.injEq, D.str.injEq, D.lst.injEq, D.tup.injEq, D.ref.injEq, MO.lst.injEq, MO.ins.injEq, mset_mset, and_true, true_and, and_self, and_assoc, exists_eq_left', exists_eq_left, exists_and_left, exists_and_right, exists_eq', List.set_cons_zero, List.set_cons_succ, decide_eq_true_eq, sqOf, lsOf, List.length_cons, List.length_nil, sizeLine_eq, List.append_nil, List.cons_append, List.nil_append, if_true, if_false, Bool.false_eq_true, reduceCtorEq, reduceIte, Nat.reduceAdd, Nat.reduceLeDiff, mset_same, Option.bind_some, List.length_map, Prod.mk.injEq, at0, at1, at2, at3, ix30, ix31, ix32, ix20, ix21, ix10, isi_ii, isi_ib, isi_ll, isi_bb, isi_ss, isi_tt, isi_is, isi_si, Bool.not_true, Bool.not_false]
      exact ⟨z, k, t, by simp, hc, by omega, ht, q'⟩
    try simp only [dSeq]
    try simp only [dIfS, dTest, dOp, dVar, dC, dCB, daCons, daNil, dSet, dRet, dNext, dDrop, dAsg, dPar, dAug, dAddI, dBreak, dCont, dRetN, slot, dLen, dCmpI, dSub, dAdd, dMul, dDiv, dMod, dPow, dNeg, dUn, dIx, dInt1, dAbs, dChain, dAnd, dOr, dNot, dAndV, dOrV, dNotV, dTru, dTruB, dIf, dTup, dLst, mkL, dSlice, dSl, doNone, doSome, dSum, dAll, dAny, dList, dTuple, dMax, dMin, eq_ii, ne_ii, eq_ss, ne_ss, eq_bb, ne_bb, eq_nn, ne_nn, dIsN, dNotN, dIsB, dNotB, gN, gT, gsNil, gsCons, gSet, dBM, dAppend, dClear, dFld, dFldS, dProp, dCall, dMeth, dMake, dCallO, dFor, dLc, diR1, diR2, diL, diT, diRv, diS, diE, dFmt, dFStr, dJs, dCallN, dFrzE, frz_l, in_ss, notin_ss, drR1, drR2, dListR, dRaise, dRaise0, dTryAs, dTry, dXf, dAddO, dInO, isL, insOf, Option.some.injEq, List.cons.injEq, D.int.injEq, D.bl.injEq, D.str.injEq, D.lst.injEq, D.tup.injEq, D.ref.injEq, MO.lst.injEq, MO.ins.injEq, mset_mset, and_true, true_and, and_self, and_assoc, exists_eq_left', exists_eq_left, exists_and_left, exists_and_right, exists_eq', List.set_cons_zero, List.set_cons_succ, decide_eq_true_eq, sqOf, lsOf, List.length_cons, List.length_nil, sizeLine_eq, List.append_nil, List.cons_append, List.nil_append, if_true, if_false, Bool.false_eq_true, reduceCtorEq, reduceIte, Nat.reduceAdd, Nat.reduceLeDiff, mset_same, Option.bind_some, List.length_map, Prod.mk.injEq, at0, at1, at2, at3, ix30, ix31, ix32, ix20, ix21, ix10, isi_ii, isi_ib, isi_ll, isi_bb, isi_ss, isi_tt, isi_is, isi_si, Bool.not_true, Bool.not_false]
    have hmo : (List.range z.length).map (fun k => D.int (opn z k t)) = ((List.range z.length).map fun k => opn z k t).map D.int := by rw [List.map_map]; rfl
    rw [hmo]
    refine lc_ints (fun x => .int x) (by rw [sizeLine_eq]; simp; omega) (fun x _ Q' q' => ?_) ?_
    · simp only [wipeD]
      try simp only [dIfS, dTest, dOp, dVar, dC, dCB, daCons, daNil, dSet, dRet, dNext, dDrop, dAsg, dPar, dAug, dAddI, dBreak, dCont, dRetN, slot, dLen, dCmpI, dSub, dAdd, dMul, dDiv, dMod, dPow, dNeg, dUn, dIx, dInt1, dAbs, dChain, dAnd, dOr, dNot, dAndV, dOrV, dNotV, dTru, dTruB, dIf, dTup, dLst, mkL, dSlice, dSl, doNone, doSome, dSum, dAll, dAny, dList, dTuple, dMax, dMin, eq_ii, ne_ii, eq_ss, ne_ss, eq_bb, ne_bb, eq_nn, ne_nn, dIsN, dNotN, dIsB, dNotB, gN, gT, gsNil, gsCons, gSet, dBM, dAppend, dClear, dFld, dFldS, dProp, dCall, dMeth, dMake, dCallO, dFor, dLc, diR1, diR2, diL, diT, diRv, diS, diE, dFmt, dFStr, dJs, dCallN, dFrzE, frz_l, in_ss, notin_ss, drR1, drR2, dListR, dRaise, dRaise0, dTryAs, dTry, dXf, dAddO, dInO, isL, insOf, Option.some.injEq, List.cons.injEq, D.int.injEq, D.bl.injEq, D.str.injEq, D.lst.injEq, D.tup.injEq, D.ref.injEq, MO.lst.injEq, MO.ins.injEq, mset_mset, and_true, true_and, and_self, and_assoc, exists_eq_left', exists_eq_left, exists_and_left, exists_and_right, exists_eq', List.set_cons_zero, List.set_cons_succ, decide_eq_true_eq, sqOf, lsOf, List.length_cons, List.length_nil, sizeLine_eq, List.append_nil, List.cons_append, List.nil_append, if_true, if_false, Bool.false_eq_true, reduceCtorEq, reduceIte, Nat.reduceAdd, Nat.reduceLeDiff, mset_same, Option.bind_some, List.length_map, Prod.mk.injEq, at0, at1, at2, at3, ix30, ix31, ix32, ix20, ix21, ix10, isi_ii, isi_ib, isi_ll, isi_bb, isi_ss, isi_tt, isi_is, isi_si, Bool.not_true, Bool.not_false]
      exact q'
    refine ⟨(List.range z.length).map fun k => opn z k t, rfl, by simp; omega, fun k hk hmin => ?_⟩
    have hlow : IsLow z t k := by
      obtain ⟨b2, hb2, rfl⟩ := List.mem_map.mp hk
      exact ⟨⟨b2, List.mem_range.mp hb2, rfl⟩, fun c hc2 => hmin _ (List.mem_map_of_mem (List.mem_range.mpr hc2))⟩
    try simp only [dSeq]
    try simp only [dIfS, dTest, dOp, dVar, dC, dCB, daCons, daNil, dSet, dRet, dNext, dDrop, dAsg, dPar, dAug, dAddI, dBreak, dCont, dRetN, slot, dLen, dCmpI, dSub, dAdd, dMul, dDiv, dMod, dPow, dNeg, dUn, dIx, dInt1, dAbs, dChain, dAnd, dOr, dNot, dAndV, dOrV, dNotV, dTru, dTruB, dIf, dTup, dLst, mkL, dSlice, dSl, doNone, doSome, dSum, dAll, dAny, dList, dTuple, dMax, dMin, eq_ii, ne_ii, eq_ss, ne_ss, eq_bb, ne_bb, eq_nn, ne_nn, dIsN, dNotN, dIsB, dNotB, gN, gT, gsNil, gsCons, gSet, dBM, dAppend, dClear, dFld, dFldS, dProp, dCall, dMeth, dMake, dCallO, dFor, dLc, diR1, diR2, diL, diT, diRv, diS, diE, dFmt, dFStr, dJs, dCallN, dFrzE, frz_l, in_ss, notin_ss, drR1, drR2, dListR, dRaise, dRaise0, dTryAs, dTry, dXf, dAddO, dInO, isL, insOf, Option.some.injEq, List.cons.injEq, D.int.injEq, D.bl.injEq, D.str.injEq, D.lst.injEq, D.tup.injEq, D.ref.injEq, MO.lst.injEq, MO.ins.injEq, mset_mset, and_true, true_and, and_self, and_assoc, exists_eq_left', exists_eq_left, exists_and_left, exists_and_right, exists_eq', List.set_cons_zero, List.set_cons_succ, decide_eq_true_eq, sqOf, lsOf, List.length_cons, List.length_nil, sizeLine_eq, List.append_nil, List.cons_append, List.nil_append, if_true, if_false, Bool.false_eq_true, reduceCtorEq, reduceIte, Nat.reduceAdd, Nat.reduceLeDiff, mset_same, Option.bind_some, List.length_map, Prod.mk.injEq, at0, at1, at2, at3, ix30, ix31, ix32, ix20, ix21, ix10, isi_ii, isi_ib, isi_ll, isi_bb, isi_ss, isi_tt, isi_is, isi_si, Bool.not_true, Bool.not_false]
    refine call_k rk (by omega) (hsz t ht) ?_
    rw [Int.toNat_natCast, hv t hlow]
    refine ⟨mul_smallL (by omega), ?_⟩
    try simp only [dIfS, dTest, dOp, dVar, dC, dCB, daCons, daNil, dSet, dRet, dNext, dDrop, dAsg, dPar, dAug, dAddI, dBreak, dCont, dRetN, slot, dLen, dCmpI, dSub, dAdd, dMul, dDiv, dMod, dPow, dNeg, dUn, dIx, dInt1, dAbs, dChain, dAnd, dOr, dNot, dAndV, dOrV, dNotV, dTru, dTruB, dIf, dTup, dLst, mkL, dSlice, dSl, doNone, doSome, dSum, dAll, dAny, dList, dTuple, dMax, dMin, eq_ii, ne_ii, eq_ss, ne_ss, eq_bb, ne_bb, eq_nn, ne_nn, dIsN, dNotN, dIsB, dNotB, gN, gT, gsNil, gsCons, gSet, dBM, dAppend, dClear, dFld, dFldS, dProp, dCall, dMeth, dMake, dCallO, dFor, dLc, diR1, diR2, diL, diT, diRv, diS, diE, dFmt, dFStr, dJs, dCallN, dFrzE, frz_l, in_ss, notin_ss, drR1, drR2, dListR, dRaise, dRaise0, dTryAs, dTry, dXf, dAddO, dInO, isL, insOf, Option.some.injEq, List.cons.injEq, D.int.injEq, D.bl.injEq, D.str.injEq, D.lst.injEq, D.tup.injEq, D.ref.injEq, MO.lst.injEq, MO.ins.injEq, mset_mset, and_true, true_and, and_self, and_assoc, exists_eq_left', exists_eq_left, exists_and_left, exists_and_right, exists_eq', List.set_cons_zero, List.set_cons_succ, decide_eq_true_eq, sqOf, lsOf, List.length_cons, List.length_nil, sizeLine_eq, List.append_nil, List.cons_append, List.nil_append, if_true, if_false, Bool.false_eq_true, reduceCtorEq, reduceIte, Nat.reduceAdd, Nat.reduceLeDiff, mset_same, Option.bind_some, List.length_map, Prod.mk.injEq, at0, at1, at2, at3, ix30, ix31, ix32, ix20, ix21, ix10, isi_ii, isi_ib, isi_ll, isi_bb, isi_ss, isi_tt, isi_is, isi_si, Bool.not_true, Bool.not_false]
    rw [if_neg (by simp)]
    refine call_k rk' (by omega) (hsz t ht) ?_
    rw [Int.toNat_natCast, hv' t hlow, Int.one_mul]
    try simp only [dIfS, dTest, dOp, dVar, dC, dCB, daCons, daNil, dSet, dRet, dNext, dDrop, dAsg, dPar, dAug, dAddI, dBreak, dCont, dRetN, slot, dLen, dCmpI, dSub, dAdd, dMul, dDiv, dMod, dPow, dNeg, dUn, dIx, dInt1, dAbs, dChain, dAnd, dOr, dNot, dAndV, dOrV, dNotV, dTru, dTruB, dIf, dTup, dLst, mkL, dSlice, dSl, doNone, doSome, dSum, dAll, dAny, dList, dTuple, dMax, dMin, eq_ii, ne_ii, eq_ss, ne_ss, eq_bb, ne_bb, eq_nn, ne_nn, dIsN, dNotN, dIsB, dNotB, gN, gT, gsNil, gsCons, gSet, dBM, dAppend, dClear, dFld, dFldS, dProp, dCall, dMeth, dMake, dCallO, dFor, dLc, diR1, diR2, diL, diT, diRv, diS, diE, dFmt, dFStr, dJs, dCallN, dFrzE, frz_l, in_ss, notin_ss, drR1, drR2, dListR, dRaise, dRaise0, dTryAs, dTry, dXf, dAddO, dInO, isL, insOf, Option.some.injEq, List.cons.injEq, D.int.injEq, D.bl.injEq, D.str.injEq, D.lst.injEq, D.tup.injEq, D.ref.injEq, MO.lst.injEq, MO.ins.injEq, mset_mset, and_true, true_and, and_self, and_assoc, exists_eq_left', exists_eq_left, exists_and_left, exists_and_right, exists_eq', List.set_cons_zero, List.set_cons_succ, decide_eq_true_eq, sqOf, lsOf, List.length_cons, List.length_nil, sizeLine_eq, List.append_nil, List.cons_append, List.nil_append, if_true, if_false, Bool.false_eq_true, reduceCtorEq, reduceIte, Nat.reduceAdd, Nat.reduceLeDiff, mset_same, Option.bind_some, List.length_map, Prod.mk.injEq, at0, at1, at2, at3, ix30, ix31, ix32, ix20, ix21, ix10, isi_ii, isi_ib, isi_ll, isi_bb, isi_ss, isi_tt, isi_is, isi_si, Bool.not_true, Bool.not_false]
    rw [if_neg (by simp)]
    refine ⟨z, t, rfl, by omega, ht, (fun h => absurd (h.symm.trans hc) Bool.false_ne_true), fun _ b hw => ?_⟩
    obtain ⟨w1, w2, w3⟩ := hw
    have ek : opn z b t = k := low_eq w2 hlow
    refine index_ints (ns := (List.range z.length).map fun k => opn z k t) (j := b) rfl ?_ (fun i x hi hx => ?_) ?_
    · rw [List.getElem?_map, List.getElem?_range w1]
      simp [ek]
    · rw [List.getElem?_map, List.getElem?_range (by omega)] at hx
      cases hx
      rw [← ek]
      exact w3 i hi
    try simp only [dIfS, dTest, dOp, dVar, dC, dCB, daCons, daNil, dSet, dRet, dNext, dDrop, dAsg, dPar, dAug, dAddI, dBreak, dCont, dRetN, slot, dLen, dCmpI, dSub, dAdd, dMul, dDiv, dMod, dPow, dNeg, dUn, dIx, dInt1, dAbs, dChain, dAnd, dOr, dNot, dAndV, dOrV, dNotV, dTru, dTruB, dIf, dTup, dLst, mkL, dSlice, dSl, doNone, doSome, dSum, dAll, dAny, dList, dTuple, dMax, dMin, eq_ii, ne_ii, eq_ss, ne_ss, eq_bb, ne_bb, eq_nn, ne_nn, dIsN, dNotN, dIsB, dNotB, gN, gT, gsNil, gsCons, gSet, dBM, dAppend, dClear, dFld, dFldS, dProp, dCall, dMeth, dMake, dCallO, dFor, dLc, diR1, diR2, diL, diT, diRv, diS, diE, dFmt, dFStr, dJs, dCallN, dFrzE, frz_l, in_ss, notin_ss, drR1, drR2, dListR, dRaise, dRaise0, dTryAs, dTry, dXf, dAddO, dInO, isL, insOf, Option.some.injEq, List.cons.injEq, D.int.injEq, D.bl.injEq, D.str.injEq, D.lst.injEq, D.tup.injEq, D.ref.injEq, MO.lst.injEq, MO.ins.injEq, mset_mset, and_true, true_and, and_self, and_assoc, exists_eq_left', exists_eq_left, exists_and_left, exists_and_right, exists_eq', List.set_cons_zero, List.set_cons_succ, decide_eq_true_eq, sqOf, lsOf, List.length_cons, List.length_nil, sizeLine_eq, List.append_nil, List.cons_append, List.nil_append, if_true, if_false, Bool.false_eq_true, reduceCtorEq, reduceIte, Nat.reduceAdd, Nat.reduceLeDiff, mset_same, Option.bind_some, List.length_map, Prod.mk.injEq, at0, at1, at2, at3, ix30, ix31, ix32, ix20, ix21, ix10, isi_ii, isi_ib, isi_ll, isi_bb, isi_ss, isi_tt, isi_is, isi_si, Bool.not_true, Bool.not_false]
    rw [if_neg (by simp)]
    exact (hP _ _ _).mpr ⟨rfl, _, _, _, _, _, _, rfl⟩
  intro r m' hp
  obtain ⟨rfl, o10, o11, o12, o13, o14, o15, rfl⟩ := (hP _ _ _).mp hp
  try simp only [dIfS, dTest, dOp, dVar, dC, dCB, daCons, daNil, dSet, dRet, dNext, dDrop, dAsg, dPar, dAug, dAddI, dBreak, dCont, dRetN, slot, dLen, dCmpI, dSub, dAdd, dMul, dDiv, dMod, dPow, dNeg, dUn, dIx, dInt1, dAbs, dChain, dAnd, dOr, dNot, dAndV, dOrV, dNotV, dTru, dTruB, dIf, dTup, dLst, mkL, dSlice, dSl, doNone, doSome, dSum, dAll, dAny, dList, dTuple, dMax, dMin, eq_ii, ne_ii, eq_ss, ne_ss, eq_bb, ne_bb, eq_nn, ne_nn, dIsN, dNotN, dIsB, dNotB, gN, gT, gsNil, gsCons, gSet, dBM, dAppend, dClear, dFld, dFldS, dProp, dCall, dMeth, dMake, dCallO, dFor, dLc, diR1, diR2, diL, diT, diRv, diS, diE, dFmt, dFStr, dJs, dCallN, dFrzE, frz_l, in_ss, notin_ss, drR1, drR2, dListR, dRaise, dRaise0, dTryAs, dTry, dXf, dAddO, dInO, isL, insOf, Option.some.injEq, List.cons.injEq, D.int.injEq, D.bl.injEq, D.str.injEq, D.lst.injEq, D.tup.injEq, D.ref.injEq, MO.lst.injEq, MO.ins.injEq, mset_mset, and_true, true_and, and_self, and_assoc, exists_eq_left', exists_eq_left, exists_and_left, exists_and_right, exists_eq', List.set_cons_zero, List.set_cons_succ, decide_eq_true_eq, sqOf, lsOf, List.length_cons, List.length_nil, sizeLine_eq, List.append_nil, List.cons_append, List.nil_append, if_true, if_false, Bool.false_eq_true, reduceCtorEq, reduceIte, Nat.reduceAdd, Nat.reduceLeDiff, mset_same, Option.bind_some, List.length_map, Prod.mk.injEq, at0, at1, at2, at3, ix30, ix31, ix32, ix20, ix21, ix10, isi_ii, isi_ib, isi_ll, isi_bb, isi_ss, isi_tt, isi_is, isi_si, Bool.not_true, Bool.not_false]
  refine call_k rk (by omega) (sz_small (by decide)) ?_
  try simp only [dIfS, dTest, dOp, dVar, dC, dCB, daCons, daNil, dSet, dRet, dNext, dDrop, dAsg, dPar, dAug, dAddI, dBreak, dCont, dRetN, slot, dLen, dCmpI, dSub, dAdd, dMul, dDiv, dMod, dPow, dNeg, dUn, dIx, dInt1, dAbs, dChain, dAnd, dOr, dNot, dAndV, dOrV, dNotV, dTru, dTruB, dIf, dTup, dLst, mkL, dSlice, dSl, doNone, doSome, dSum, dAll, dAny, dList, dTuple, dMax, dMin, eq_ii, ne_ii, eq_ss, ne_ss, eq_bb, ne_bb, eq_nn, ne_nn, dIsN, dNotN, dIsB, dNotB, gN, gT, gsNil, gsCons, gSet, dBM, dAppend, dClear, dFld, dFldS, dProp, dCall, dMeth, dMake, dCallO, dFor, dLc, diR1, diR2, diL, diT, diRv, diS, diE, dFmt, dFStr, dJs, dCallN, dFrzE, frz_l, in_ss, notin_ss, drR1, drR2, dListR, dRaise, dRaise0, dTryAs, dTry, dXf, dAddO, dInO, isL, insOf, Option.some.injEq, List.cons.injEq, D.int.injEq, D.bl.injEq, D.str.injEq, D.lst.injEq, D.tup.injEq, D.ref.injEq, MO.lst.injEq, MO.ins.injEq, mset_mset, and_true, true_and, and_self, and_assoc, exists_eq_left', exists_eq_left, exists_and_left, exists_and_right, exists_eq', List.set_cons_zero, List.set_cons_succ, decide_eq_true_eq, sqOf, lsOf, List.length_cons, List.length_nil, sizeLine_eq, List.append_nil, List.cons_append, List.nil_append, if_true, if_false, Bool.false_eq_true, reduceCtorEq, reduceIte, Nat.reduceAdd, Nat.reduceLeDiff, mset_same, Option.bind_some, List.length_map, Prod.mk.injEq, at0, at1, at2, at3, ix30, ix31, ix32, ix20, ix21, ix10, isi_ii, isi_ib, isi_ll, isi_bb, isi_ss, isi_tt, isi_is, isi_si, Bool.not_true, Bool.not_false]
  rw [if_pos (show V (Int.toNat 0) = 0 from hv0)]
  refine call_k rk (by omega) (sz_small (by decide)) ?_
  rw [isi_ii]
  exact q _
end LW

set_option Elab.async false
set_option linter.all false
set_option maxRecDepth 100000
set_option maxHeartbeats 4000000
namespace LW
open PySem PySem.Spec PyProof.Rows L2 DL RowM
open He (ga ma)
theorem okx_OutOfRange {P : Program} {w : World} {K : PySem.W.Frag} {mg : Str → Option Value} {base : Heap} (T : Txt K mg) : ∃ fd, FnOk P w K mg base (L2.CX P w) 1 (ma K (ga K "OutOfRange") "__init__") fd ["self", "what", "value"] (spX (ga K "OutOfRange") ["what", "value"]) ∧ Binds K fd ["self", "what", "value"] [] := by
  obtain ⟨fd, F⟩ := T.d_OutOfRange_init
  refine ⟨fd, fn_exc (k := 0) F sc_OutOfRange_init T.ox_OutOfRange ?_ rfl (by decide) (fun cdv A outer s H E => pss_cons (ps_ost (pv 0) (pv 1)) (pss_cons (ps_ost (pv 0) (pv 2)) (pss_nil))), F.bindsN fun _ _ _ _ _ _ us hl => match us, hl with | [_, _, _], _ => rfl⟩
  intro g hg
  rcases List.mem_cons.mp hg with rfl | hg
  · exact T.nf_OutOfRange_what
  rcases List.mem_cons.mp hg with rfl | hg
  · exact T.nf_OutOfRange_value
  cases hg

theorem okx_BadCalendar {P : Program} {w : World} {K : PySem.W.Frag} {mg : Str → Option Value} {base : Heap} (T : Txt K mg) : ∃ fd, FnOk P w K mg base (L2.CX P w) 1 (ma K (ga K "BadCalendar") "__init__") fd ["self", "calendar"] (spX (ga K "BadCalendar") ["calendar"]) ∧ Binds K fd ["self", "calendar"] [] := by
  obtain ⟨fd, F⟩ := T.d_BadCalendar_init
  refine ⟨fd, fn_exc (k := 0) F sc_BadCalendar_init T.ox_BadCalendar ?_ rfl (by decide) (fun cdv A outer s H E => pss_cons (ps_ost (pv 0) (pv 1)) (pss_nil)), F.bindsN fun _ _ _ _ _ _ us hl => match us, hl with | [_, _], _ => rfl⟩
  intro g hg
  rcases List.mem_cons.mp hg with rfl | hg
  · exact T.nf_BadCalendar_calendar
  cases hg

theorem ok_value_at {P : Program} {w : World} {K : PySem.W.Frag} {mg : Str → Option Value} {base : Heap} (T : Txt K mg)  : Good P w K mg base 1 (some "value_at") (ga K "value_at") ["cells", "period", "gain", "index"] (sp_value_at K) := by
  obtain ⟨fd, F⟩ := T.d_value_at
  refine ⟨⟨fd, fn_d (k := 0) F sc_value_at len_value_at (t_value_at K) (fun cdv A outer s H E WD hr tk hp => ?_) (pure_value_at T), F.bindsN fun _ _ _ _ _ _ us hl => match us, hl with | [_, _, _, _], _ => rfl, F.kp⟩, T.g_value_at⟩
  refine dss_cons (ds_if (dt_cmp op_lt od_cmpI (dv 3) (de_callB call_len cd_len rfl T.b_len (by decide +kernel) (da_cons (dv 0) da_nil)) (nomark _)) (dss_one (ds_ret (de_ix (dv 0) (dv 3)))) dss_nil) ?_
  refine dss_cons (ds_set (i := 4) sc_value_at.nd rfl (Or.inl rfl) (de_add false (de_div (de_sub (dv 3) (de_callB call_len cd_len rfl T.b_len (by decide +kernel) (da_cons (dv 0) da_nil))) (dv 1)) de_int)) ?_
  exact dss_one (ds_ret (de_add false (de_ix (dv 0) (de_sub (dv 3) (de_mul false (dv 4) (dv 1)))) (de_mul false (dv 4) (dv 2))))

theorem ok_least_period {P : Program} {w : World} {K : PySem.W.Frag} {mg : Str → Option Value} {base : Heap} (T : Txt K mg)  : Good P w K mg base 1 (some "least_period") (ga K "least_period") ["steps"] (sp_least_period K) := by
  obtain ⟨fd, F⟩ := T.d_least_period
  refine ⟨⟨fd, fn_d (k := 0) F sc_least_period len_least_period (t_least_period K) (fun cdv A outer s H E WD hr tk hp => ?_) (pure_least_period T), F.bindsN fun _ _ _ _ _ _ us hl => match us, hl with | [_], _ => rfl, F.kp⟩, T.g_least_period⟩
  refine dss_cons (ds_set (i := 1) sc_least_period.nd rfl (Or.inl rfl) (de_callB call_len cd_len rfl T.b_len (by decide +kernel) (da_cons (dv 0) da_nil))) ?_
  refine dss_cons (ds_for hp rfl (di_range2 rfl T.b_range (da_cons de_int (da_cons (de_add false (dv 1) de_int) da_nil))) (dg_name (i := 2) sc_least_period.nd rfl (Or.inl rfl)) (dss_one (ds_if (dt_w (dw_and (dt_cmp (op_eqA hr.units) od_eq (de_mod (dv 1) (dv 2)) de_int (nomark _)) (dw_and1 (dt_cmp (op_eqA hr.units) od_eq (dv 0) (de_add false (de_slice false (dv 0) (do_some (dv 2)) do_none) (de_slice false (dv 0) do_none (do_some (dv 2)))) (nomark _))))) (dss_one (ds_ret (dv 2))) dss_nil))) ?_
  exact dss_one (ds_ret (dv 1))

theorem ok_normal_form {P : Program} {w : World} {K : PySem.W.Frag} {mg : Str → Option Value} {base : Heap} (T : Txt K mg) (c_value_at : Good P w K mg base 1 (some "value_at") (ga K "value_at") ["cells", "period", "gain", "index"] (sp_value_at K)) (c_least_period : Good P w K mg base 1 (some "least_period") (ga K "least_period") ["steps"] (sp_least_period K)) : Good P w K mg base 2 (some "normal_form") (ga K "normal_form") ["head", "period", "gain"] (sp_normal_form K) := by
  obtain ⟨_, c_value_at_ok, c_value_at_b, c_value_at_kp⟩ := c_value_at.ex
  have c_value_at_g := c_value_at.gl
  obtain ⟨_, c_least_period_ok, c_least_period_b, c_least_period_kp⟩ := c_least_period.ex
  have c_least_period_g := c_least_period.gl
  obtain ⟨fd, F⟩ := T.d_normal_form
  refine ⟨⟨fd, fn_d (k := 1) F sc_normal_form len_normal_form (t_normal_form K) (fun cdv A outer s H E WD hr tk hp => ?_) (pure_normal_form T), F.bindsN fun _ _ _ _ _ _ us hl => match us, hl with | [_, _, _], _ => rfl, F.kp⟩, T.g_normal_form⟩
  refine dss_cons (ds_set (i := 3) sc_normal_form.nd rfl (Or.inr rfl) (de_sub (de_callB call_len cd_len rfl T.b_len (by decide +kernel) (da_cons (dv 0) da_nil)) (dv 1))) ?_
  refine dss_cons (ds_set (i := 4) sc_normal_form.nd rfl (Or.inr rfl) (de_lc false (own := [("k", 5)]) (c := .one 5) (te := dCall (sp_value_at K) WD0 [] (daCons (dVar 0) (daCons (dVar 1) (daCons (dVar 2) (daCons (dOp (dAdd false) (dVar 3) (dVar 5)) daNil))))) (tt := dYes) rfl sc_normal_form.nd (by simp [CT.in]) (di_range1 rfl T.b_range (da_cons (de_add false (dv 1) de_int) da_nil)) (blkOk_by (own := [("k", 5)]) (N := nm_normal_form) (sc := defScope s_normal_form) (by decide +kernel)) (fun _ _ _ _ _ => pg_ct1 (i := 5) sc_normal_form.nd rfl (Or.inl rfl)) (fun _ _ _ _ _ => dts_nil) (fun _ _ _ _ _ => de_call c_value_at_ok (hr.mono (by decide)) rfl c_value_at_g c_value_at_kp c_value_at_b .nil (fun _ => .nil) takes0 (da_cons (dv 0) (da_cons (dv 1) (da_cons (dv 2) (da_cons (de_add false (dv 3) (dv 5)) da_nil))))))) ?_
  refine dss_cons (ds_setLc false (i := 6) (hy := rfl) (hyl := rfl) (hsw := sw_true rfl rfl rfl (by decide +kernel)) (hc := rfl) (hN := sc_normal_form.nd) (own := [("k", 5)]) (c := .one 5) (te := dOp dSub (dOp dIx (dVar 4) (dOp (dAdd false) (dVar 5) (dC (.int 1)))) (dOp dIx (dVar 4) (dVar 5))) (tt := dYes) (by simp [CT.in]) (di_range1 rfl T.b_range (da_cons (dv 1) da_nil)) (blkOk_by (own := [("k", 5)]) (N := nm_normal_form) (sc := defScope s_normal_form) (by decide +kernel)) (fun _ _ _ _ _ => pg_ct1 (i := 5) sc_normal_form.nd rfl (Or.inl rfl)) (fun _ _ _ _ _ => dts_nil) (fun _ _ _ _ _ => de_sub (de_ix (dv 4) (de_add false (dv 5) de_int)) (de_ix (dv 4) (dv 5)))) ?_
  refine dss_cons (ds_set (i := 7) sc_normal_form.nd rfl (Or.inl rfl) (de_call c_least_period_ok (hr.mono (by decide)) rfl c_least_period_g c_least_period_kp c_least_period_b .nil (fun _ => .nil) tk (da_cons (dv 6) da_nil))) ?_
  refine dss_cons (ds_set (i := 8) sc_normal_form.nd rfl (Or.inl rfl) (de_callB (cr_sum rfl) cd_sum rfl T.b_sum (by decide +kernel) (da_cons (de_slice false (dv 6) do_none (do_some (dv 7))) da_nil))) ?_
  refine dss_cons (ds_set (i := 9) sc_normal_form.nd rfl (Or.inl rfl) (dv 3)) ?_
  refine dss_cons (ds_while hp (dt_w (dw_and (dt_cmp op_gt od_cmpI (dv 9) de_int (nomark _)) (dw_and1 (dt_cmp (op_eqA hr.units) od_eq (de_add false (de_ix (dv 0) (de_sub (dv 9) de_int)) (dv 8)) (de_call c_value_at_ok (hr.mono (by decide)) rfl c_value_at_g c_value_at_kp c_value_at_b .nil (fun _ => .nil) tk (da_cons (dv 0) (da_cons (dv 1) (da_cons (dv 2) (da_cons (de_add false (de_sub (dv 9) de_int) (dv 7)) da_nil))))) (nomark _))))) (dss_one (ds_set (i := 9) sc_normal_form.nd rfl (Or.inl rfl) (de_sub (dv 9) de_int)))) ?_
  refine dss_cons (ds_setLc false (i := 10) (hy := rfl) (hyl := rfl) (hsw := sw_true rfl rfl rfl (by decide +kernel)) (hc := rfl) (hN := sc_normal_form.nd) (own := [("k", 5)]) (c := .one 5) (te := dCall (sp_value_at K) WD0 [] (daCons (dVar 0) (daCons (dVar 1) (daCons (dVar 2) (daCons (dVar 5) daNil))))) (tt := dYes) (by simp [CT.in]) (di_range1 rfl T.b_range (da_cons (de_add false (dv 9) (dv 7)) da_nil)) (blkOk_by (own := [("k", 5)]) (N := nm_normal_form) (sc := defScope s_normal_form) (by decide +kernel)) (fun _ _ _ _ _ => pg_ct1 (i := 5) sc_normal_form.nd rfl (Or.inl rfl)) (fun _ _ _ _ _ => dts_nil) (fun _ _ _ _ _ => de_call c_value_at_ok (hr.mono (by decide)) rfl c_value_at_g c_value_at_kp c_value_at_b .nil (fun _ => .nil) takes0 (da_cons (dv 0) (da_cons (dv 1) (da_cons (dv 2) (da_cons (dv 5) da_nil)))))) ?_
  exact dss_one (ds_ret (de_tup (da_cons (dv 10) (da_cons (dv 7) (da_cons (dv 8) (da_cons (dv 9) da_nil))))))

theorem ok_Row_init {P : Program} {w : World} {K : PySem.W.Frag} {mg : Str → Option Value} {base : Heap} (T : Txt K mg) (c_normal_form : Good P w K mg base 2 (some "normal_form") (ga K "normal_form") ["head", "period", "gain"] (sp_normal_form K)) : Good P w K mg base 3 none (ma K (ga K "Row") "__init__") ["self", "head", "period", "gain"] (sp_Row_init K) := by
  obtain ⟨_, c_normal_form_ok, c_normal_form_b, c_normal_form_kp⟩ := c_normal_form.ex
  have c_normal_form_g := c_normal_form.gl
  obtain ⟨fd, F⟩ := T.d_Row_init
  refine ⟨⟨fd, fn_d (k := 2) F sc_Row_init len_Row_init (t_Row_init K) (fun cdv A outer s H E WD hr tk hp => ?_) (pure_Row_init T), F.bindsN fun _ _ _ _ _ _ us hl => match us, hl with | [_, _, _, _], _ => rfl, F.kp⟩, trivial⟩
  refine dss_cons (ds_if (dt_w (dw_or (dt_cmp op_lt od_cmpI (dv 2) de_int (nomark _)) (dw_or1 (dt_cmp op_lt od_cmpI (de_callB call_len cd_len rfl T.b_len (by decide +kernel) (da_cons (dv 1) da_nil)) (dv 2) (nomark _))))) (dss_one ds_never) dss_nil) ?_
  refine dss_cons (ds_asg (de_call c_normal_form_ok (hr.mono (by decide)) rfl c_normal_form_g c_normal_form_kp c_normal_form_b .nil (fun _ => .nil) tk (da_cons (de_callTy call_list_of (cd_list false) rfl T.b_list (by decide +kernel) (da_cons (dv 1) da_nil)) (da_cons (dv 2) (da_cons (dv 3) da_nil)))) (dg_tup rfl (dgs_cons (dg_name (i := 4) sc_Row_init.nd rfl (Or.inl rfl)) (dgs_cons (dg_name (i := 5) sc_Row_init.nd rfl (Or.inl rfl)) (dgs_cons (dg_name (i := 6) sc_Row_init.nd rfl (Or.inl rfl)) (dgs_cons (dg_name (i := 7) sc_Row_init.nd rfl (Or.inl rfl)) dgs_nil)))))) ?_
  refine dss_cons (ds_fld (dv 0) (dv 4)) ?_
  refine dss_cons (ds_fld (dv 0) (dv 5)) ?_
  refine dss_cons (ds_fld (dv 0) (dv 6)) ?_
  exact dss_one (ds_fld (dv 0) (dv 7))

theorem ok_Row_head {P : Program} {w : World} {K : PySem.W.Frag} {mg : Str → Option Value} {base : Heap} (T : Txt K mg)  : Good P w K mg base 1 none (wad K "property" "Row" "head") ["self"] (sp_Row_head K) := by
  obtain ⟨fd, F⟩ := T.d_Row_head
  refine ⟨⟨fd, fn_d (k := 0) F sc_Row_head len_Row_head (t_Row_head K) (fun cdv A outer s H E WD hr tk hp => ?_) (pure_Row_head T), F.bindsN fun _ _ _ _ _ _ us hl => match us, hl with | [_], _ => rfl, F.kp⟩, trivial⟩
  exact dss_one (ds_ret (de_callTy call_list_of (cd_list false) rfl T.b_list (by decide +kernel) (da_cons (de_fld (dv 0)) da_nil)))

theorem ok_Row_call {P : Program} {w : World} {K : PySem.W.Frag} {mg : Str → Option Value} {base : Heap} (T : Txt K mg) (c_value_at : Good P w K mg base 1 (some "value_at") (ga K "value_at") ["cells", "period", "gain", "index"] (sp_value_at K)) : Good P w K mg base 2 none (ma K (ga K "Row") "__call__") ["self", "index"] (sp_Row_call K) := by
  obtain ⟨_, c_value_at_ok, c_value_at_b, c_value_at_kp⟩ := c_value_at.ex
  have c_value_at_g := c_value_at.gl
  obtain ⟨fd, F⟩ := T.d_Row_call
  refine ⟨⟨fd, fn_d (k := 1) F sc_Row_call len_Row_call (t_Row_call K) (fun cdv A outer s H E WD hr tk hp => ?_) (pure_Row_call T), F.bindsN fun _ _ _ _ _ _ us hl => match us, hl with | [_, _], _ => rfl, F.kp⟩, trivial⟩
  refine dss_cons (ds_if (dt_cmp op_lt od_cmpI (dv 1) de_int (nomark _)) (dss_one ds_never) dss_nil) ?_
  exact dss_one (ds_ret (de_call c_value_at_ok (hr.mono (by decide)) rfl c_value_at_g c_value_at_kp c_value_at_b .nil (fun _ => .nil) tk (da_cons (de_fld (dv 0)) (da_cons (de_fld (dv 0)) (da_cons (de_fld (dv 0)) (da_cons (dv 1) da_nil))))))

theorem ok_Row_eq {P : Program} {w : World} {K : PySem.W.Frag} {mg : Str → Option Value} {base : Heap} (T : Txt K mg)  : Good P w K mg base 1 none (ma K (ga K "Row") "__eq__") ["self", "other"] (sp_Row_eq K) := by
  obtain ⟨fd, F⟩ := T.d_Row_eq
  refine ⟨⟨fd, fn_d (k := 0) F sc_Row_eq len_Row_eq (t_Row_eq K) (fun cdv A outer s H E WD hr tk hp => ?_) (pure_Row_eq T), F.bindsN fun _ _ _ _ _ _ us hl => match us, hl with | [_, _], _ => rfl, F.kp⟩, trivial⟩
  exact dss_one (ds_ret (de_and (de_callB call_isi cd_isi rfl T.b_isinstance (by decide +kernel) (da_cons (dv 1) (da_cons (de_globR rfl T.g_Row) da_nil))) (de_and (de_cmp (op_eqA hr.units) od_eq (de_fld (dv 0)) (de_fld (dv 1)) (nomark _)) (de_and (de_cmp (op_eqA hr.units) od_eq (de_fld (dv 0)) (de_fld (dv 1)) (nomark _)) (de_one (de_cmp (op_eqA hr.units) od_eq (de_fld (dv 0)) (de_fld (dv 1)) (nomark _)))))))

theorem ok_check_speed {P : Program} {w : World} {K : PySem.W.Frag} {mg : Str → Option Value} {base : Heap} (T : Txt K mg)  : Good P w K mg base 3 (some "check_speed") (ga K "check_speed") ["speed"] (sp_check_speed K) := by
  obtain ⟨_, x_OutOfRange_ok, x_OutOfRange_b⟩ := okx_OutOfRange (P := P) (w := w) (base := base) T
  obtain ⟨fd, F⟩ := T.d_check_speed
  refine ⟨⟨fd, fn_d (k := 2) F sc_check_speed len_check_speed (t_check_speed K) (fun cdv A outer s H E WD hr tk hp => ?_) (pure_check_speed T), F.bindsN fun _ _ _ _ _ _ us hl => match us, hl with | [_], _ => rfl, F.kp⟩, T.g_check_speed⟩
  exact dss_one (ds_if (dt_not (dt_chain op_le od_cmpI op_le od_cmpI de_int (dv 0) (de_globI rfl T.k_SPEED_LIMIT))) (dss_one (ds_raise T.ox_OutOfRange T.oxi_OutOfRange T.oxf_OutOfRange x_OutOfRange_ok (hr.mono (by decide)) x_OutOfRange_b rfl T.g_OutOfRange (by decide) rfl tk (da_cons de_str (da_cons (dv 0) da_nil)))) dss_nil)

theorem ok_check_calendar {P : Program} {w : World} {K : PySem.W.Frag} {mg : Str → Option Value} {base : Heap} (T : Txt K mg)  : Good P w K mg base 3 (some "check_calendar") (ga K "check_calendar") ["calendar"] (sp_check_calendar K) := by
  obtain ⟨_, x_BadCalendar_ok, x_BadCalendar_b⟩ := okx_BadCalendar (P := P) (w := w) (base := base) T
  obtain ⟨fd, F⟩ := T.d_check_calendar
  refine ⟨⟨fd, fn_d (k := 2) F sc_check_calendar len_check_calendar (t_check_calendar K) (fun cdv A outer s H E WD hr tk hp => ?_) (pure_check_calendar T), F.bindsN fun _ _ _ _ _ _ us hl => match us, hl with | [_], _ => rfl, F.kp⟩, T.g_check_calendar⟩
  refine dss_cons (ds_if (dt_w (dw_or (dt_not (dt_chain op_le od_cmpI op_le od_cmpI de_int (de_callB call_len cd_len rfl T.b_len (by decide +kernel) (da_cons (dv 0) da_nil)) (de_globI rfl T.k_CALENDAR_LIMIT))) (dw_or1 (dt_cmp op_notInA od_notIn de_str (dv 0) (by rfl))))) (dss_one (ds_raise T.ox_BadCalendar T.oxi_BadCalendar T.oxf_BadCalendar x_BadCalendar_ok (hr.mono (by decide)) x_BadCalendar_b rfl T.g_BadCalendar (by decide) rfl tk (da_cons (dv 0) da_nil))) dss_nil) ?_
  exact dss_one (ds_for hp rfl (di_str (dv 0)) (dg_name (i := 1) sc_check_calendar.nd rfl (Or.inl rfl)) (dss_one (ds_if (dt_cmp op_notInA od_notIn (dv 1) (de_tup (da_cons de_str (da_cons de_str da_nil))) (by rfl)) (dss_one (ds_raise T.ox_BadCalendar T.oxi_BadCalendar T.oxf_BadCalendar x_BadCalendar_ok (hr.mono (by decide)) x_BadCalendar_b rfl T.g_BadCalendar (by decide) rfl tk (da_cons (dv 0) da_nil))) dss_nil)))

theorem ok_open_ticks {P : Program} {w : World} {K : PySem.W.Frag} {mg : Str → Option Value} {base : Heap} (T : Txt K mg)  : Good P w K mg base 1 (some "open_ticks") (ga K "open_ticks") ["calendar", "begin", "ticks"] (sp_open_ticks K) := by
  obtain ⟨fd, F⟩ := T.d_open_ticks
  refine ⟨⟨fd, fn_d (k := 0) F sc_open_ticks len_open_ticks (t_open_ticks K) (fun cdv A outer s H E WD hr tk hp => ?_) (pure_open_ticks T), F.bindsN fun _ _ _ _ _ _ us hl => match us, hl with | [_, _, _], _ => rfl, F.kp⟩, T.g_open_ticks⟩
  refine dss_cons (ds_set (i := 3) sc_open_ticks.nd rfl (Or.inr rfl) (de_callB call_len cd_len rfl T.b_len (by decide +kernel) (da_cons (dv 0) da_nil))) ?_
  refine dss_cons (ds_asg (de_callB call_divmodW cd_divmod rfl T.b_divmod (by decide +kernel) (da_cons (dv 2) (da_cons (dv 3) da_nil))) (dg_tup rfl (dgs_cons (dg_name (i := 4) sc_open_ticks.nd rfl (Or.inl rfl)) (dgs_cons (dg_name (i := 5) sc_open_ticks.nd rfl (Or.inl rfl)) dgs_nil)))) ?_
  refine dss_cons (ds_setLc false (i := 6) (hy := rfl) (hyl := rfl) (hsw := sw_true rfl rfl rfl (by decide +kernel)) (hc := rfl) (hN := sc_open_ticks.nd) (own := [("k", 7)]) (c := .one 7) (te := dVar 7) (tt := dTest (dOp dEq (dOp dIx (dVar 0) (dOp dMod (dOp (dAdd false) (dVar 1) (dVar 7)) (dVar 3))) (dC (.str "1")))) (by simp [CT.in]) (di_range1 rfl T.b_range (da_cons (dv 5) da_nil)) (blkOk_by (own := [("k", 7)]) (N := nm_open_ticks) (sc := defScope s_open_ticks) (by decide +kernel)) (fun _ _ _ _ _ => pg_ct1 (i := 7) sc_open_ticks.nd rfl (Or.inl rfl)) (fun _ _ _ _ _ => dts_one (dt_cmp (op_eqA hr.units) od_eq (de_ix (dv 0) (de_mod (de_add false (dv 1) (dv 7)) (dv 3))) de_str (nomark _))) (fun _ _ _ _ _ => dv 7)) ?_
  exact dss_one (ds_ret (de_add false (de_mul false (dv 4) (de_bm PySem.F.plainAttrs_str PySem.F.slot_str_count PySem.F.type_str_count mt_count md_countS (dv 0) (da_cons de_str da_nil))) (de_callB call_len cd_len rfl T.b_len (by decide +kernel) (da_cons (dv 6) da_nil))))

theorem ok_calendar_row {P : Program} {w : World} {K : PySem.W.Frag} {mg : Str → Option Value} {base : Heap} (T : Txt K mg) (c_check_calendar : Good P w K mg base 3 (some "check_calendar") (ga K "check_calendar") ["calendar"] (sp_check_calendar K)) (c_check_speed : Good P w K mg base 3 (some "check_speed") (ga K "check_speed") ["speed"] (sp_check_speed K)) (c_open_ticks : Good P w K mg base 1 (some "open_ticks") (ga K "open_ticks") ["calendar", "begin", "ticks"] (sp_open_ticks K)) (c_Row_init : Good P w K mg base 3 none (ma K (ga K "Row") "__init__") ["self", "head", "period", "gain"] (sp_Row_init K)) : GoodK P w K mg base 5 (some "calendar_row") (ga K "calendar_row") ["calendar", "speed"] (sp_calendar_row K) 1 ["speed"] [.int 1] := by
  obtain ⟨_, c_check_calendar_ok, c_check_calendar_b, c_check_calendar_kp⟩ := c_check_calendar.ex
  have c_check_calendar_g := c_check_calendar.gl
  obtain ⟨_, c_check_speed_ok, c_check_speed_b, c_check_speed_kp⟩ := c_check_speed.ex
  have c_check_speed_g := c_check_speed.gl
  obtain ⟨_, c_open_ticks_ok, c_open_ticks_b, c_open_ticks_kp⟩ := c_open_ticks.ex
  have c_open_ticks_g := c_open_ticks.gl
  obtain ⟨_, c_Row_init_ok, c_Row_init_b, c_Row_init_kp⟩ := c_Row_init.ex
  have c_Row_init_g := c_Row_init.gl
  obtain ⟨fd, F⟩ := T.d_calendar_row
  obtain ⟨dV, hdV, hbV⟩ := FunD.binds0 (ps := ["calendar", "speed"]) F 1 (by simp) rfl (fun D doc pm an cdv ct us ks h1 h2 => match us, ks, h1, h2 with | [_], [_], _, _ => ⟨_, _, _, _, _, _, rfl, rfl, rfl⟩)
  refine ⟨⟨fd, fn_d (k := 4) F sc_calendar_row len_calendar_row (t_calendar_row K) (fun cdv A outer s H E WD hr tk hp => ?_) (pure_calendar_row T), F.kp, kbn_all F 1 ["speed"] (fun _ _ _ _ _ _ us ws h1 h2 => match us, ws, h1, h2 with | [_], [_], _, _ => rfl), dV, _, hdV, hbV, fun G => .cons (.int 1) (.nil)⟩, T.g_calendar_row⟩
  refine dss_cons (ds_expr (de_call c_check_calendar_ok (hr.mono (by decide)) rfl c_check_calendar_g c_check_calendar_kp c_check_calendar_b .nil (fun _ => .nil) tk (da_cons (dv 0) da_nil))) ?_
  refine dss_cons (ds_expr (de_call c_check_speed_ok (hr.mono (by decide)) rfl c_check_speed_g c_check_speed_kp c_check_speed_b .nil (fun _ => .nil) tk (da_cons (dv 1) da_nil))) ?_
  refine dss_cons (ds_set (i := 2) sc_calendar_row.nd rfl (Or.inl rfl) (de_callB call_len cd_len rfl T.b_len (by decide +kernel) (da_cons (dv 0) da_nil))) ?_
  refine dss_cons (ds_set (i := 3) sc_calendar_row.nd rfl (Or.inl rfl) (de_lst true da_nil)) ?_
  refine dss_cons (ds_for hp rfl (di_range1 rfl T.b_range (da_cons (dv 2) da_nil)) (dg_name (i := 4) sc_calendar_row.nd rfl (Or.inr rfl)) (dss_one (ds_expr (de_bm PySem.F.plainAttrs_list PySem.F.slot_list_append PySem.F.type_list_append mt_append md_append (dv 3) (da_cons (de_mul false (dv 1) (de_callB (call_minA rfl) cd_min rfl T.b_min (by decide +kernel) (da_cons (de_lc false (own := [("begin", 5)]) (c := .one 5) (te := dCall (sp_open_ticks K) WD0 [] (daCons (dVar 0) (daCons (dVar 5) (daCons (dVar 4) daNil)))) (tt := dYes) rfl sc_calendar_row.nd (by simp [CT.in]) (di_range1 rfl T.b_range (da_cons (dv 2) da_nil)) (blkOk_by (own := [("begin", 5)]) (N := nm_calendar_row) (sc := defScope s_calendar_row) (by decide +kernel)) (fun _ _ _ _ _ => pg_ct1 (i := 5) sc_calendar_row.nd rfl (Or.inl rfl)) (fun _ _ _ _ _ => dts_nil) (fun _ _ _ _ _ => de_call c_open_ticks_ok (hr.mono (by decide)) rfl c_open_ticks_g c_open_ticks_kp c_open_ticks_b .nil (fun _ => .nil) takes0 (da_cons (dv 0) (da_cons (dv 5) (da_cons (dv 4) da_nil))))) da_nil))) da_nil))))) ?_
  refine dss_frz 3 ?_
  exact dss_one (ds_ret (de_make T.mk_Row c_Row_init_ok (hr.mono (by decide)) rfl T.g_Row c_Row_init_b .nil (fun _ => .nil) tk (none_of none_Row_init) (da_cons (dv 3) (da_cons (dv 2) (da_cons (de_mul false (dv 1) (de_bm PySem.F.plainAttrs_str PySem.F.slot_str_count PySem.F.type_str_count mt_count md_countS (dv 0) (da_cons de_str da_nil))) da_nil)))))

theorem ok_worst_begin {P : Program} {w : World} {K : PySem.W.Frag} {mg : Str → Option Value} {base : Heap} (T : Txt K mg) (c_check_calendar : Good P w K mg base 3 (some "check_calendar") (ga K "check_calendar") ["calendar"] (sp_check_calendar K)) (c_open_ticks : Good P w K mg base 1 (some "open_ticks") (ga K "open_ticks") ["calendar", "begin", "ticks"] (sp_open_ticks K)) : Good P w K mg base 4 (some "worst_begin") (ga K "worst_begin") ["calendar", "ticks"] (sp_worst_begin K) := by
  obtain ⟨_, c_check_calendar_ok, c_check_calendar_b, c_check_calendar_kp⟩ := c_check_calendar.ex
  have c_check_calendar_g := c_check_calendar.gl
  obtain ⟨_, c_open_ticks_ok, c_open_ticks_b, c_open_ticks_kp⟩ := c_open_ticks.ex
  have c_open_ticks_g := c_open_ticks.gl
  obtain ⟨fd, F⟩ := T.d_worst_begin
  refine ⟨⟨fd, fn_d (k := 3) F sc_worst_begin len_worst_begin (t_worst_begin K) (fun cdv A outer s H E WD hr tk hp => ?_) (pure_worst_begin T), F.bindsN fun _ _ _ _ _ _ us hl => match us, hl with | [_, _], _ => rfl, F.kp⟩, T.g_worst_begin⟩
  refine dss_cons (ds_expr (de_call c_check_calendar_ok (hr.mono (by decide)) rfl c_check_calendar_g c_check_calendar_kp c_check_calendar_b .nil (fun _ => .nil) tk (da_cons (dv 0) da_nil))) ?_
  refine dss_cons (ds_setLc false (i := 2) (hy := rfl) (hyl := rfl) (hsw := sw_true rfl rfl rfl (by decide +kernel)) (hc := rfl) (hN := sc_worst_begin.nd) (own := [("begin", 3)]) (c := .one 3) (te := dCall (sp_open_ticks K) WD0 [] (daCons (dVar 0) (daCons (dVar 3) (daCons (dVar 1) daNil)))) (tt := dYes) (by simp [CT.in]) (di_range1 rfl T.b_range (da_cons (de_callB call_len cd_len rfl T.b_len (by decide +kernel) (da_cons (dv 0) da_nil)) da_nil)) (blkOk_by (own := [("begin", 3)]) (N := nm_worst_begin) (sc := defScope s_worst_begin) (by decide +kernel)) (fun _ _ _ _ _ => pg_ct1 (i := 3) sc_worst_begin.nd rfl (Or.inl rfl)) (fun _ _ _ _ _ => dts_nil) (fun _ _ _ _ _ => de_call c_open_ticks_ok (hr.mono (by decide)) rfl c_open_ticks_g c_open_ticks_kp c_open_ticks_b .nil (fun _ => .nil) takes0 (da_cons (dv 0) (da_cons (dv 3) (da_cons (dv 1) da_nil))))) ?_
  exact dss_one (ds_ret (de_bm PySem.F.plainAttrs_list PySem.F.slot_list_index PySem.F.type_list_index mt_index md_index (dv 2) (da_cons (de_callB (call_minA rfl) cd_min rfl T.b_min (by decide +kernel) (da_cons (dv 2) da_nil)) da_nil)))

theorem ok_law_cell {P : Program} {w : World} {K : PySem.W.Frag} {mg : Str → Option Value} {base : Heap} (T : Txt K mg)  : Good P w K mg base 1 (some "_law_cell") (ga K "_law_cell") ["_law_script", "_law_place"] (sp_law_cell K) := by
  obtain ⟨fd, F⟩ := T.d_law_cell
  refine ⟨⟨fd, fn_d (k := 0) F sc_law_cell len_law_cell (t_law_cell K) (fun cdv A outer s H E WD hr tk hp => ?_) (pure_law_cell T), F.bindsN fun _ _ _ _ _ _ us hl => match us, hl with | [_, _], _ => rfl, F.kp⟩, T.g_law_cell⟩
  refine dss_cons (ds_if (dt_cmp op_lt od_cmpI (dv 1) (de_callB call_len cd_len rfl T.b_len (by decide +kernel) (da_cons (dv 0) da_nil)) (nomark _)) (dss_one (ds_ret (de_ix (dv 0) (dv 1)))) dss_nil) ?_
  exact dss_one (ds_ret de_int)

theorem ok_law_source {P : Program} {w : World} {K : PySem.W.Frag} {mg : Str → Option Value} {base : Heap} (T : Txt K mg)  : Good P w K mg base 1 (some "_law_source") (ga K "_law_source") ["_law_cell_here"] (sp_law_source K) := by
  obtain ⟨fd, F⟩ := T.d_law_source
  refine ⟨⟨fd, fn_d (k := 0) F sc_law_source len_law_source (t_law_source K) (fun cdv A outer s H E WD hr tk hp => ?_) (pure_law_source T), F.bindsN fun _ _ _ _ _ _ us hl => match us, hl with | [_], _ => rfl, F.kp⟩, T.g_law_source⟩
  exact dss_one (ds_ret (de_lst true (da_cons (dv 0) (da_cons (dv 0) (da_cons de_int da_nil)))))

theorem ok_law_draw {P : Program} {w : World} {K : PySem.W.Frag} {mg : Str → Option Value} {base : Heap} (T : Txt K mg)  : Good P w K mg base 1 (some "_law_draw") (ga K "_law_draw") ["_law_source_here", "_law_limit"] (sp_law_draw K) := by
  obtain ⟨fd, F⟩ := T.d_law_draw
  refine ⟨⟨fd, fn_d (k := 0) F sc_law_draw len_law_draw (t_law_draw K) (fun cdv A outer s H E WD hr tk hp => ?_) (pure_law_draw T), F.bindsN fun _ _ _ _ _ _ us hl => match us, hl with | [_, _], _ => rfl, F.kp⟩, T.g_law_draw⟩
  refine dss_cons (ds_asg (de_add false (de_ix (dv 0) de_int) de_int) (dg_sub (dv 0) de_int)) ?_
  refine dss_cons (ds_if (dt_cmp op_ge od_cmpI (de_ix (dv 0) de_int) (de_pow de_int de_int) (nomark _)) (dss_cons (ds_set (i := 2) sc_law_draw.nd rfl (Or.inl rfl) (de_mod (de_callTy call_int1 cd_int1 rfl T.b_int (by decide +kernel) (da_cons (de_ix (dv 0) de_int) da_nil)) (dv 1)))
    (dss_cons (ds_asg (de_div (de_ix (dv 0) de_int) (dv 1)) (dg_sub (dv 0) de_int))
    (dss_one (ds_ret (dv 2))))) dss_nil) ?_
  refine dss_cons (ds_set (i := 3) sc_law_draw.nd rfl (Or.inl rfl) (de_mod (de_callTy call_int1 cd_int1 rfl T.b_int (by decide +kernel) (da_cons (de_ix (dv 0) de_int) da_nil)) de_int)) ?_
  refine dss_cons (ds_set (i := 4) sc_law_draw.nd rfl (Or.inl rfl) (de_mod (de_callTy call_int1 cd_int1 rfl T.b_int (by decide +kernel) (da_cons (de_pow (de_callTy call_int1 cd_int1 rfl T.b_int (by decide +kernel) (da_cons (de_add false (de_add false (de_mul false (dv 3) de_int) (de_mul false (de_ix (dv 0) de_int) de_int)) de_int) da_nil)) de_int) da_nil)) de_int)) ?_
  refine dss_cons (ds_set (i := 4) sc_law_draw.nd rfl (Or.inl rfl) (de_mod (de_callTy call_int1 cd_int1 rfl T.b_int (by decide +kernel) (da_cons (de_pow (de_callTy call_int1 cd_int1 rfl T.b_int (by decide +kernel) (da_cons (de_add false (dv 4) (de_mul false (de_mul false (de_ix (dv 0) de_int) (de_ix (dv 0) de_int)) de_int)) da_nil)) de_int) da_nil)) de_int)) ?_
  exact dss_one (ds_ret (de_mod (de_div (dv 4) de_int) (dv 1)))

theorem ok_law_open {P : Program} {w : World} {K : PySem.W.Frag} {mg : Str → Option Value} {base : Heap} (T : Txt K mg)  : Good P w K mg base 1 (some "_law_open") (ga K "_law_open") ["_law_calendar", "_law_begin", "_law_ticks"] (sp_law_open K) := by
  obtain ⟨fd, F⟩ := T.d_law_open
  refine ⟨⟨fd, fn_d (k := 0) F sc_law_open len_law_open (t_law_open K) (fun cdv A outer s H E WD hr tk hp => ?_) (pure_law_open T), F.bindsN fun _ _ _ _ _ _ us hl => match us, hl with | [_, _, _], _ => rfl, F.kp⟩, T.g_law_open⟩
  refine dss_cons (ds_set (i := 3) sc_law_open.nd rfl (Or.inr rfl) (de_callB call_len cd_len rfl T.b_len (by decide +kernel) (da_cons (dv 0) da_nil))) ?_
  refine dss_cons (ds_setLc false (i := 4) (hy := rfl) (hyl := rfl) (hsw := sw_true rfl rfl rfl (by decide +kernel)) (hc := rfl) (hN := sc_law_open.nd) (own := [("_law_k", 5)]) (c := .one 5) (te := dVar 5) (tt := dTest (dOp dEq (dOp dIx (dVar 0) (dOp dMod (dCB dInt1 (daCons (dOp (dAdd false) (dVar 1) (dVar 5)) daNil)) (dVar 3))) (dC (.str "1")))) (by simp [CT.in]) (di_range1 rfl T.b_range (da_cons (de_mod (de_callTy call_int1 cd_int1 rfl T.b_int (by decide +kernel) (da_cons (dv 2) da_nil)) (dv 3)) da_nil)) (blkOk_by (own := [("_law_k", 5)]) (N := nm_law_open) (sc := defScope s_law_open) (by decide +kernel)) (fun _ _ _ _ _ => pg_ct1 (i := 5) sc_law_open.nd rfl (Or.inl rfl)) (fun _ _ _ _ _ => dts_one (dt_cmp (op_eqA hr.units) od_eq (de_ix (dv 0) (de_mod (de_callTy call_int1 cd_int1 rfl T.b_int (by decide +kernel) (da_cons (de_add false (dv 1) (dv 5)) da_nil)) (dv 3))) de_str (nomark _))) (fun _ _ _ _ _ => dv 5)) ?_
  exact dss_one (ds_ret (de_add false (de_mul false (de_div (dv 2) (dv 3)) (de_bm PySem.F.plainAttrs_str PySem.F.slot_str_count PySem.F.type_str_count mt_count md_countS (dv 0) (da_cons de_str da_nil))) (de_callB call_len cd_len rfl T.b_len (by decide +kernel) (da_cons (dv 4) da_nil))))

theorem ok_law_any {P : Program} {w : World} {K : PySem.W.Frag} {mg : Str → Option Value} {base : Heap} (T : Txt K mg) (c_law_draw : Good P w K mg base 1 (some "_law_draw") (ga K "_law_draw") ["_law_source_here", "_law_limit"] (sp_law_draw K)) : Good P w K mg base 2 (some "_law_any") (ga K "_law_any") ["_law_source_here"] (sp_law_any K) := by
  obtain ⟨_, c_law_draw_ok, c_law_draw_b, c_law_draw_kp⟩ := c_law_draw.ex
  have c_law_draw_g := c_law_draw.gl
  obtain ⟨fd, F⟩ := T.d_law_any
  refine ⟨⟨fd, fn_d (k := 1) F sc_law_any len_law_any (t_law_any K) (fun cdv A outer s H E WD hr tk hp => ?_) (pure_law_any T), F.bindsN fun _ _ _ _ _ _ us hl => match us, hl with | [_], _ => rfl, F.kp⟩, T.g_law_any⟩
  refine dss_cons (ds_set (i := 1) sc_law_any.nd rfl (Or.inl rfl) (de_add false de_int (de_call c_law_draw_ok (hr.mono (by decide)) rfl c_law_draw_g c_law_draw_kp c_law_draw_b .nil (fun _ => .nil) tk (da_cons (dv 0) (da_cons de_int da_nil))))) ?_
  refine dss_cons (ds_set (i := 2) sc_law_any.nd rfl (Or.inl rfl) (de_add false de_int (de_call c_law_draw_ok (hr.mono (by decide)) rfl c_law_draw_g c_law_draw_kp c_law_draw_b .nil (fun _ => .nil) tk (da_cons (dv 0) (da_cons de_int da_nil))))) ?_
  refine dss_cons (ds_set (i := 3) sc_law_any.nd rfl (Or.inl rfl) de_str) ?_
  refine dss_cons (ds_for hp rfl (di_range1 rfl T.b_range (da_cons (dv 1) da_nil)) (dg_name (i := 4) sc_law_any.nd rfl (Or.inl rfl)) (dss_one (ds_set (i := 3) sc_law_any.nd rfl (Or.inl rfl) (de_add false (dv 3) (de_ix de_str (de_callTy call_int1 cd_int1 rfl T.b_int (by decide +kernel) (da_cons (de_cmp op_lt od_cmpI (de_call c_law_draw_ok (hr.mono (by decide)) rfl c_law_draw_g c_law_draw_kp c_law_draw_b .nil (fun _ => .nil) tk (da_cons (dv 0) (da_cons de_int da_nil))) (dv 2) (nomark _)) da_nil))))))) ?_
  refine dss_cons (ds_set (i := 5) sc_law_any.nd rfl (Or.inl rfl) (de_call c_law_draw_ok (hr.mono (by decide)) rfl c_law_draw_g c_law_draw_kp c_law_draw_b .nil (fun _ => .nil) tk (da_cons (dv 0) (da_cons (dv 1) da_nil)))) ?_
  exact dss_one (ds_ret (de_add false (de_add false (de_slice false (dv 3) do_none (do_some (dv 5))) de_str) (de_slice false (dv 3) (do_some (de_add false (dv 5) de_int)) do_none)))

theorem ok_law_outcome {P : Program} {w : World} {K : PySem.W.Frag} {mg : Str → Option Value} {base : Heap} (T : Txt K mg) (c_calendar_row : GoodK P w K mg base 5 (some "calendar_row") (ga K "calendar_row") ["calendar", "speed"] (sp_calendar_row K) 1 ["speed"] [.int 1]) : Good P w K mg base 6 (some "_law_outcome") (ga K "_law_outcome") ["_law_calendar", "_law_pace"] (sp_law_outcome K) := by
  obtain ⟨_, c_calendar_row_ok, c_calendar_row_kp, c_calendar_row_kb, _, _, c_calendar_row_dv, c_calendar_row_b, c_calendar_row_dd⟩ := c_calendar_row.ex
  have c_calendar_row_g := c_calendar_row.gl
  obtain ⟨fd, F⟩ := T.d_law_outcome
  refine ⟨⟨fd, fn_d (k := 5) F sc_law_outcome len_law_outcome (t_law_outcome K) (fun cdv A outer s H E WD hr tk hp => ?_) (pure_law_outcome T), F.bindsN fun _ _ _ _ _ _ us hl => match us, hl with | [_, _], _ => rfl, F.kp⟩, T.g_law_outcome⟩
  exact dss_one (ds_try_list (tb := fun WDx1 => dRet (dCallN 1 1 (sp_calendar_row K) WDx1 (daCons (dVar 0) daNil) (daCons (dVar 1) daNil))) rfl rfl sc_law_outcome.nd tk (fun W WDx1 pn xe tk hp => dss_one (ds_ret (de_callN (n := 1) c_calendar_row_ok (hr.mono (by decide)) rfl c_calendar_row_g c_calendar_row_kp c_calendar_row_kb tk (da_cons (dv 0) da_nil) (dk_cons (dv 1) dk_nil)))) (.named rfl rfl ⟨rfl, by decide, .inl T.g_BadCalendar⟩ (fun ea oe ec ed pn hz hv => dss_one (ds_ret (de_tup (da_cons de_str (da_cons (de_xf T.xf_BadCalendar T.nf_BadCalendar_calendar hz hv (dv 2)) da_nil))))) (.named rfl rfl ⟨rfl, by decide, .inl T.g_OutOfRange⟩ (fun ea oe ec ed pn hz hv => dss_one (ds_ret (de_tup (da_cons (de_xf T.xf_OutOfRange T.nf_OutOfRange_what hz hv (dv 2)) (da_cons (de_xf T.xf_OutOfRange T.nf_OutOfRange_value hz hv (dv 2)) da_nil))))) .nil)))

theorem ok_law_worst {P : Program} {w : World} {K : PySem.W.Frag} {mg : Str → Option Value} {base : Heap} (T : Txt K mg) (c_worst_begin : Good P w K mg base 4 (some "worst_begin") (ga K "worst_begin") ["calendar", "ticks"] (sp_worst_begin K)) : Good P w K mg base 5 (some "_law_worst") (ga K "_law_worst") ["_law_calendar", "_law_ticks"] (sp_law_worst K) := by
  obtain ⟨_, c_worst_begin_ok, c_worst_begin_b, c_worst_begin_kp⟩ := c_worst_begin.ex
  have c_worst_begin_g := c_worst_begin.gl
  obtain ⟨fd, F⟩ := T.d_law_worst
  refine ⟨⟨fd, fn_d (k := 4) F sc_law_worst len_law_worst (t_law_worst K) (fun cdv A outer s H E WD hr tk hp => ?_) (pure_law_worst T), F.bindsN fun _ _ _ _ _ _ us hl => match us, hl with | [_, _], _ => rfl, F.kp⟩, T.g_law_worst⟩
  exact dss_one (ds_try_as (i := 2) (tb := fun WDx1 => dRet (dCall (sp_worst_begin K) WDx1 [] (daCons (dVar 0) (daCons (dVar 1) daNil)))) (ts := fun ea ec ed => dRet (dTup (daCons (dC (.str "calendar")) (daCons (dXf ea ec ed (ga K "BadCalendar") "calendar" (dVar 2)) daNil)))) rfl rfl sc_law_worst.nd rfl rfl T.g_BadCalendar rfl tk (fun W WDx1 pn xe tk hp => dss_one (ds_ret (de_call c_worst_begin_ok (hr.mono (by decide)) rfl c_worst_begin_g c_worst_begin_kp c_worst_begin_b .nil (fun _ => .nil) tk (da_cons (dv 0) (da_cons (dv 1) da_nil))))) (fun ea oe ec ed pn hz hv => dss_one (ds_ret (de_tup (da_cons de_str (da_cons (de_xf T.xf_BadCalendar T.nf_BadCalendar_calendar hz hv (dv 2)) da_nil))))))

theorem ok_law_refused {P : Program} {w : World} {K : PySem.W.Frag} {mg : Str → Option Value} {base : Heap} (T : Txt K mg) (c_law_draw : Good P w K mg base 1 (some "_law_draw") (ga K "_law_draw") ["_law_source_here", "_law_limit"] (sp_law_draw K)) (c_law_outcome : Good P w K mg base 6 (some "_law_outcome") (ga K "_law_outcome") ["_law_calendar", "_law_pace"] (sp_law_outcome K)) (c_law_worst : Good P w K mg base 5 (some "_law_worst") (ga K "_law_worst") ["_law_calendar", "_law_ticks"] (sp_law_worst K)) : Good P w K mg base 7 (some "_law_refused") (ga K "_law_refused") ["_law_source_here", "_law_calendar", "_law_pace"] (sp_law_refused K) := by
  obtain ⟨_, c_law_draw_ok, c_law_draw_b, c_law_draw_kp⟩ := c_law_draw.ex
  have c_law_draw_g := c_law_draw.gl
  obtain ⟨_, c_law_outcome_ok, c_law_outcome_b, c_law_outcome_kp⟩ := c_law_outcome.ex
  have c_law_outcome_g := c_law_outcome.gl
  obtain ⟨_, c_law_worst_ok, c_law_worst_b, c_law_worst_kp⟩ := c_law_worst.ex
  have c_law_worst_g := c_law_worst.gl
  obtain ⟨fd, F⟩ := T.d_law_refused
  refine ⟨⟨fd, fn_d (k := 6) F sc_law_refused len_law_refused (t_law_refused K) (fun cdv A outer s H E WD hr tk hp => ?_) (pure_law_refused T), F.bindsN fun _ _ _ _ _ _ us hl => match us, hl with | [_, _, _], _ => rfl, F.kp⟩, T.g_law_refused⟩
  refine dss_cons (ds_set (i := 3) sc_law_refused.nd rfl (Or.inl rfl) (de_call c_law_draw_ok (hr.mono (by decide)) rfl c_law_draw_g c_law_draw_kp c_law_draw_b .nil (fun _ => .nil) tk (da_cons (dv 0) (da_cons (de_callB call_len cd_len rfl T.b_len (by decide +kernel) (da_cons (dv 1) da_nil)) da_nil)))) ?_
  refine dss_cons (ds_set (i := 4) sc_law_refused.nd rfl (Or.inl rfl) (de_ix de_str (de_call c_law_draw_ok (hr.mono (by decide)) rfl c_law_draw_g c_law_draw_kp c_law_draw_b .nil (fun _ => .nil) tk (da_cons (dv 0) (da_cons de_int da_nil))))) ?_
  refine dss_cons (ds_set (i := 5) sc_law_refused.nd rfl (Or.inl rfl) (de_lst true (da_cons de_str (da_cons (de_mulS de_str (de_callB call_len cd_len rfl T.b_len (by decide +kernel) (da_cons (dv 1) da_nil))) (da_cons (de_add false (dv 1) (de_mulS de_str (de_sub de_int (de_callB call_len cd_len rfl T.b_len (by decide +kernel) (da_cons (dv 1) da_nil))))) da_nil))))) ?_
  refine dss_cons (ds_expr (de_bm PySem.F.plainAttrs_list PySem.F.slot_list_append PySem.F.type_list_append mt_append md_append (dv 5) (da_cons (de_add false (de_add false (de_slice false (dv 1) do_none (do_some (dv 3))) (dv 4)) (de_slice false (dv 1) (do_some (de_add false (dv 3) de_int)) do_none)) da_nil))) ?_
  refine dss_frz 5 ?_
  refine dss_cons (ds_for hp rfl (di_list (dv 5)) (dg_name (i := 6) sc_law_refused.nd rfl (Or.inl rfl)) (dss_cons (ds_for hp rfl (di_list (de_lst false (da_cons (dv 2) (da_cons de_int (da_cons de_int da_nil))))) (dg_name (i := 7) sc_law_refused.nd rfl (Or.inl rfl)) (dss_one (ds_if (dt_cmp (op_neA hr.units) od_ne (de_call c_law_outcome_ok (hr.mono (by decide)) rfl c_law_outcome_g c_law_outcome_kp c_law_outcome_b .nil (fun _ => .nil) tk (da_cons (dv 6) (da_cons (dv 7) da_nil))) (de_tup (da_cons de_str (da_cons (dv 6) da_nil))) (nomark _)) (dss_one (ds_ret de_bl)) dss_nil)))
    (dss_one (ds_if (dt_cmp (op_neA hr.units) od_ne (de_call c_law_worst_ok (hr.mono (by decide)) rfl c_law_worst_g c_law_worst_kp c_law_worst_b .nil (fun _ => .nil) tk (da_cons (dv 6) (da_cons de_int da_nil))) (de_tup (da_cons de_str (da_cons (dv 6) da_nil))) (nomark _)) (dss_one (ds_ret de_bl)) dss_nil)))) ?_
  exact dss_one (ds_ret (de_and (de_cmp (op_eqA hr.units) od_eq (de_call c_law_outcome_ok (hr.mono (by decide)) rfl c_law_outcome_g c_law_outcome_kp c_law_outcome_b .nil (fun _ => .nil) tk (da_cons (dv 1) (da_cons de_int da_nil))) (de_tup (da_cons de_str (da_cons de_int da_nil))) (nomark _)) (de_one (de_cmp (op_eqA hr.units) od_eq (de_call c_law_outcome_ok (hr.mono (by decide)) rfl c_law_outcome_g c_law_outcome_kp c_law_outcome_b .nil (fun _ => .nil) tk (da_cons (dv 1) (da_cons de_int da_nil))) (de_tup (da_cons de_str (da_cons de_int da_nil))) (nomark _)))))

theorem law_ok {l : PySem.W.OpenLaw} {w : World} {K : PySem.W.Frag} {mg : Str → Option Value} {base : Heap} {fd : FuncData} (T : Txt K mg) (F : FunD K "law" "law" (defArgs s_law) (defBody s_law) (defScope s_law) [] [] (ga K "law") fd) : FnOk l.prog w K mg base CX0 8 (ga K "law") fd ["_law_script"] (liftSp K spLaw) := by
  have c_law_source : Good l.prog w K mg base 1 (some "_law_source") (ga K "_law_source") ["_law_cell_here"] (sp_law_source K) := ok_law_source T
  have c_law_cell : Good l.prog w K mg base 1 (some "_law_cell") (ga K "_law_cell") ["_law_script", "_law_place"] (sp_law_cell K) := ok_law_cell T
  have c_law_draw : Good l.prog w K mg base 1 (some "_law_draw") (ga K "_law_draw") ["_law_source_here", "_law_limit"] (sp_law_draw K) := ok_law_draw T
  have c_law_any : Good l.prog w K mg base 2 (some "_law_any") (ga K "_law_any") ["_law_source_here"] (sp_law_any K) := ok_law_any T c_law_draw
  have c_check_calendar : Good l.prog w K mg base 3 (some "check_calendar") (ga K "check_calendar") ["calendar"] (sp_check_calendar K) := ok_check_calendar T
  have c_check_speed : Good l.prog w K mg base 3 (some "check_speed") (ga K "check_speed") ["speed"] (sp_check_speed K) := ok_check_speed T
  have c_open_ticks : Good l.prog w K mg base 1 (some "open_ticks") (ga K "open_ticks") ["calendar", "begin", "ticks"] (sp_open_ticks K) := ok_open_ticks T
  have c_value_at : Good l.prog w K mg base 1 (some "value_at") (ga K "value_at") ["cells", "period", "gain", "index"] (sp_value_at K) := ok_value_at T
  have c_least_period : Good l.prog w K mg base 1 (some "least_period") (ga K "least_period") ["steps"] (sp_least_period K) := ok_least_period T
  have c_normal_form : Good l.prog w K mg base 2 (some "normal_form") (ga K "normal_form") ["head", "period", "gain"] (sp_normal_form K) := ok_normal_form T c_value_at c_least_period
  have c_Row_init : Good l.prog w K mg base 3 none (ma K (ga K "Row") "__init__") ["self", "head", "period", "gain"] (sp_Row_init K) := ok_Row_init T c_normal_form
  have c_calendar_row : GoodK l.prog w K mg base 5 (some "calendar_row") (ga K "calendar_row") ["calendar", "speed"] (sp_calendar_row K) 1 ["speed"] [.int 1] := ok_calendar_row T c_check_calendar c_check_speed c_open_ticks c_Row_init
  have c_law_outcome : Good l.prog w K mg base 6 (some "_law_outcome") (ga K "_law_outcome") ["_law_calendar", "_law_pace"] (sp_law_outcome K) := ok_law_outcome T c_calendar_row
  have c_worst_begin : Good l.prog w K mg base 4 (some "worst_begin") (ga K "worst_begin") ["calendar", "ticks"] (sp_worst_begin K) := ok_worst_begin T c_check_calendar c_open_ticks
  have c_law_worst : Good l.prog w K mg base 5 (some "_law_worst") (ga K "_law_worst") ["_law_calendar", "_law_ticks"] (sp_law_worst K) := ok_law_worst T c_worst_begin
  have c_law_refused : Good l.prog w K mg base 7 (some "_law_refused") (ga K "_law_refused") ["_law_source_here", "_law_calendar", "_law_pace"] (sp_law_refused K) := ok_law_refused T c_law_draw c_law_outcome c_law_worst
  have c_Row_call : Good l.prog w K mg base 2 none (ma K (ga K "Row") "__call__") ["self", "index"] (sp_Row_call K) := ok_Row_call T c_value_at
  have c_Row_head : Good l.prog w K mg base 1 none (wad K "property" "Row" "head") ["self"] (sp_Row_head K) := ok_Row_head T
  have c_law_open : Good l.prog w K mg base 1 (some "_law_open") (ga K "_law_open") ["_law_calendar", "_law_begin", "_law_ticks"] (sp_law_open K) := ok_law_open T
  obtain ⟨_, c_law_source_ok, c_law_source_b, c_law_source_kp⟩ := c_law_source.ex
  have c_law_source_g := c_law_source.gl
  obtain ⟨_, c_law_cell_ok, c_law_cell_b, c_law_cell_kp⟩ := c_law_cell.ex
  have c_law_cell_g := c_law_cell.gl
  obtain ⟨_, c_law_any_ok, c_law_any_b, c_law_any_kp⟩ := c_law_any.ex
  have c_law_any_g := c_law_any.gl
  obtain ⟨_, c_law_draw_ok, c_law_draw_b, c_law_draw_kp⟩ := c_law_draw.ex
  have c_law_draw_g := c_law_draw.gl
  obtain ⟨_, c_law_refused_ok, c_law_refused_b, c_law_refused_kp⟩ := c_law_refused.ex
  have c_law_refused_g := c_law_refused.gl
  obtain ⟨_, c_law_outcome_ok, c_law_outcome_b, c_law_outcome_kp⟩ := c_law_outcome.ex
  have c_law_outcome_g := c_law_outcome.gl
  obtain ⟨_, c_calendar_row_ok, c_calendar_row_kp, c_calendar_row_kb, _, _, c_calendar_row_dv, c_calendar_row_b, c_calendar_row_dd⟩ := c_calendar_row.ex
  have c_calendar_row_g := c_calendar_row.gl
  obtain ⟨_, c_Row_init_ok, c_Row_init_b, c_Row_init_kp⟩ := c_Row_init.ex
  have c_Row_init_g := c_Row_init.gl
  obtain ⟨_, c_Row_call_ok, c_Row_call_b, c_Row_call_kp⟩ := c_Row_call.ex
  have c_Row_call_g := c_Row_call.gl
  obtain ⟨_, c_Row_head_ok, c_Row_head_b, c_Row_head_kp⟩ := c_Row_head.ex
  have c_Row_head_g := c_Row_head.gl
  obtain ⟨_, c_law_open_ok, c_law_open_b, c_law_open_kp⟩ := c_law_open.ex
  have c_law_open_g := c_law_open.gl
  obtain ⟨_, c_law_worst_ok, c_law_worst_b, c_law_worst_kp⟩ := c_law_worst.ex
  have c_law_worst_g := c_law_worst.gl
  refine fn_d0 (k := 7) F sc_law (spLaw_len _) (t_law K) (fun cdv A outer s H E hr tk hp => ?_) (fun ds m Q E h => pure_law T ds m Q (fun _ _ => False) h)
  refine dss_cons (ds_set (i := 1) sc_law.nd rfl (Or.inl rfl) (de_call c_law_source_ok (hr.mono (by decide)) rfl c_law_source_g c_law_source_kp c_law_source_b .nil (fun _ => .nil) tk (da_cons (de_call c_law_cell_ok (hr.mono (by decide)) rfl c_law_cell_g c_law_cell_kp c_law_cell_b .nil (fun _ => .nil) tk (da_cons (dv 0) (da_cons de_int da_nil))) da_nil))) ?_
  refine dss_cons (ds_set (i := 2) sc_law.nd rfl (Or.inr rfl) (de_call c_law_any_ok (hr.mono (by decide)) rfl c_law_any_g c_law_any_kp c_law_any_b .nil (fun _ => .nil) tk (da_cons (dv 1) da_nil))) ?_
  refine dss_cons (ds_set (i := 3) sc_law.nd rfl (Or.inl rfl) (de_add false de_int (de_call c_law_draw_ok (hr.mono (by decide)) rfl c_law_draw_g c_law_draw_kp c_law_draw_b .nil (fun _ => .nil) tk (da_cons (dv 1) (da_cons de_int da_nil))))) ?_
  refine dss_cons (ds_if (dt_not (dt_tru (de_call c_law_refused_ok (hr.mono (by decide)) rfl c_law_refused_g c_law_refused_kp c_law_refused_b .nil (fun _ => .nil) tk (da_cons (dv 1) (da_cons (dv 2) (da_cons (dv 3) da_nil)))))) (dss_one (ds_ret de_bl)) dss_nil) ?_
  refine dss_cons (ds_set (i := 4) sc_law.nd rfl (Or.inr rfl) (de_call c_law_outcome_ok (hr.mono (by decide)) rfl c_law_outcome_g c_law_outcome_kp c_law_outcome_b .nil (fun _ => .nil) tk (da_cons (dv 2) (da_cons (dv 3) da_nil)))) ?_
  refine dss_cons (ds_set (i := 5) sc_law.nd rfl (Or.inl rfl) (de_call c_calendar_row_ok (hr.mono (by decide)) rfl c_calendar_row_g c_calendar_row_kp c_calendar_row_b c_calendar_row_dv c_calendar_row_dd tk (da_cons (dv 2) da_nil))) ?_
  refine dss_cons (ds_if (dt_w (dw_or (dt_not (dt_tru (de_callB call_isi cd_isi rfl T.b_isinstance (by decide +kernel) (da_cons (dv 4) (da_cons (de_globR rfl T.g_Row) da_nil))))) (dw_or1 (dt_not (dt_tru (de_callB call_isi cd_isi rfl T.b_isinstance (by decide +kernel) (da_cons (dv 5) (da_cons (de_globR rfl T.g_Row) da_nil)))))))) (dss_one (ds_ret de_bl)) dss_nil) ?_
  refine dss_cons (ds_set (i := 6) sc_law.nd rfl (Or.inl rfl) (de_callB call_len cd_len rfl T.b_len (by decide +kernel) (da_cons (dv 2) da_nil))) ?_
  refine dss_cons (ds_set (i := 7) sc_law.nd rfl (Or.inl rfl) (de_make T.mk_Row c_Row_init_ok (hr.mono (by decide)) rfl T.g_Row c_Row_init_b .nil (fun _ => .nil) tk (none_of none_Row_init) (da_cons (de_lc false (own := [("_law_k", 8)]) (c := .one 8) (te := dCallO (ga K "Row") (sp_Row_call K) WD0 (dVar 4) (daCons (dVar 8) daNil)) (tt := dYes) rfl sc_law.nd (by simp [CT.in]) (di_range1 rfl T.b_range (da_cons (dv 6) da_nil)) (blkOk_by (own := [("_law_k", 8)]) (N := nm_law) (sc := defScope s_law) (by decide +kernel)) (fun _ _ _ _ _ => pg_ct1 (i := 8) sc_law.nd rfl (Or.inl rfl)) (fun _ _ _ _ _ => dts_nil) (fun _ _ _ _ _ => de_callO (dv 4) T.co_Row c_Row_call_ok (hr.mono (by decide)) c_Row_call_b takes0 (da_cons (dv 8) da_nil))) (da_cons (dv 6) (da_cons (de_callO (dv 4) T.co_Row c_Row_call_ok (hr.mono (by decide)) c_Row_call_b tk (da_cons (dv 6) da_nil)) da_nil))))) ?_
  refine dss_cons (ds_if (dt_cmp (op_neA hr.units) od_ne (de_lst false (da_cons (de_fld (dv 4)) (da_cons (de_fld (dv 4)) (da_cons (de_fld (dv 4)) (da_cons (de_prop (dv 4) T.cl_Row T.p_Row_head c_Row_head_ok (hr.mono (by decide)) c_Row_head_b) da_nil))))) (de_lst false (da_cons (de_fld (dv 7)) (da_cons (de_fld (dv 7)) (da_cons (de_fld (dv 7)) (da_cons (de_prop (dv 7) T.cl_Row T.p_Row_head c_Row_head_ok (hr.mono (by decide)) c_Row_head_b) da_nil))))) (nomark _)) (dss_one (ds_ret de_bl)) dss_nil) ?_
  refine dss_cons (ds_set (i := 9) sc_law.nd rfl (Or.inl rfl) (de_add false (de_listR false rfl rfl T.b_list (dr_1 rfl T.b_range (de_mul false de_int (dv 6)))) (de_lst false (da_cons (de_sub (de_mul false de_int (dv 6)) de_int) (da_cons (de_mul false de_int (dv 6)) da_nil))))) ?_
  refine dss_cons (ds_for hp rfl (di_list (de_add false (dv 9) (de_lc false (own := [("_law_cell_here", 11)]) (c := .one 11) (te := dOp dMod (dCB dInt1 (daCons (dVar 11) daNil)) (dOp dPow (dC (.int 10)) (dC (.int 40)))) (tt := dYes) rfl sc_law.nd (by simp [CT.in]) (di_list (de_slice false (dv 0) (do_some de_int) (do_some de_int))) (blkOk_by (own := [("_law_cell_here", 11)]) (N := nm_law) (sc := defScope s_law) (by decide +kernel)) (fun _ _ _ _ _ => pg_ct1 (i := 11) sc_law.nd rfl (Or.inl rfl)) (fun _ _ _ _ _ => dts_nil) (fun _ _ _ _ _ => de_mod (de_callTy call_int1 cd_int1 rfl T.b_int (by decide +kernel) (da_cons (dv 11) da_nil)) (de_pow de_int de_int))))) (dg_name (i := 10) sc_law.nd rfl (Or.inr rfl)) (dss_cons (ds_setLc false (i := 12) (hy := rfl) (hyl := rfl) (hsw := sw_true rfl rfl rfl (by decide +kernel)) (hc := rfl) (hN := sc_law.nd) (own := [("_law_begin", 13)]) (c := .one 13) (te := dCall (sp_law_open K) WD0 [] (daCons (dVar 2) (daCons (dVar 13) (daCons (dVar 10) daNil)))) (tt := dYes) (by simp [CT.in]) (di_range1 rfl T.b_range (da_cons (dv 6) da_nil)) (blkOk_by (own := [("_law_begin", 13)]) (N := nm_law) (sc := defScope s_law) (by decide +kernel)) (fun _ _ _ _ _ => pg_ct1 (i := 13) sc_law.nd rfl (Or.inl rfl)) (fun _ _ _ _ _ => dts_nil) (fun _ _ _ _ _ => de_call c_law_open_ok (hr.mono (by decide)) rfl c_law_open_g c_law_open_kp c_law_open_b .nil (fun _ => .nil) takes0 (da_cons (dv 2) (da_cons (dv 13) (da_cons (dv 10) da_nil)))))
    (dss_cons (ds_set (i := 14) sc_law.nd rfl (Or.inl rfl) (de_callB (call_minA rfl) cd_min rfl T.b_min (by decide +kernel) (da_cons (de_lc false (own := [("_law_count", 15)]) (c := .one 15) (te := dCB dInt1 (daCons (dVar 15) daNil)) (tt := dYes) rfl sc_law.nd (by simp [CT.in]) (di_list (dv 12)) (blkOk_by (own := [("_law_count", 15)]) (N := nm_law) (sc := defScope s_law) (by decide +kernel)) (fun _ _ _ _ _ => pg_ct1 (i := 15) sc_law.nd rfl (Or.inl rfl)) (fun _ _ _ _ _ => dts_nil) (fun _ _ _ _ _ => de_callTy call_int1 cd_int1 rfl T.b_int (by decide +kernel) (da_cons (dv 15) da_nil))) da_nil)))
    (dss_cons (ds_if (dt_w (dw_or (dt_cmp (op_neA hr.units) od_ne (de_callO (dv 4) T.co_Row c_Row_call_ok (hr.mono (by decide)) c_Row_call_b tk (da_cons (dv 10) da_nil)) (de_mul false (dv 3) (dv 14)) (nomark _)) (dw_or1 (dt_cmp (op_neA hr.units) od_ne (de_callO (dv 5) T.co_Row c_Row_call_ok (hr.mono (by decide)) c_Row_call_b tk (da_cons (dv 10) da_nil)) (dv 14) (nomark _))))) (dss_one (ds_ret de_bl)) dss_nil)
    (dss_one (ds_if (dt_cmp (op_neA hr.units) od_ne (de_call c_law_worst_ok (hr.mono (by decide)) rfl c_law_worst_g c_law_worst_kp c_law_worst_b .nil (fun _ => .nil) tk (da_cons (dv 2) (da_cons (dv 10) da_nil))) (de_bm PySem.F.plainAttrs_list PySem.F.slot_list_index PySem.F.type_list_index mt_index md_index (dv 12) (da_cons (dv 14) da_nil)) (nomark _)) (dss_one (ds_ret de_bl)) dss_nil)))))) ?_
  exact dss_one (ds_ret (de_and (de_cmp (op_eqA hr.units) od_eq (de_callO (dv 4) T.co_Row c_Row_call_ok (hr.mono (by decide)) c_Row_call_b tk (da_cons de_int da_nil)) de_int (nomark _)) (de_one (de_callB call_isi cd_isi rfl T.b_isinstance (by decide +kernel) (da_cons (de_callO (dv 4) T.co_Row c_Row_call_ok (hr.mono (by decide)) c_Row_call_b tk (da_cons de_int da_nil)) (da_cons (de_ty rfl T.b_int (by decide +kernel)) da_nil))))))

end LW

set_option Elab.async false
set_option linter.all false
set_option maxRecDepth 100000
set_option maxHeartbeats 0
namespace LW
open PySem PySem.Spec PyProof.Rows L2 DL RowM
open He (ga ma)
abbrev R : PySem.W.OpenRow := PySem.W.OpenLaw.row PySem.Challenge.rw_walkdues_k36_calendar_rows
abbrev hk : PySem.W.Hook := hookA 6 fa fn
def ob (s : PySem.W.SharedT) : AlA := obsAG 6 fa fn (HandSHeadRun.getT s)
theorem ob_eq (s : PySem.W.SharedT) : ob s = hk.obs s.abs := obsAG_eq (HandSHeadRun.getT_eq s)
def loose : List Str := (["_wall", "__name__", "DuesError", "OutOfRange", "BadRow", "TooLong", "BadCalendar", "PERIOD_LIMIT", "value_at", "greatest_divisor", "common_multiple", "least_period", "normal_form", "limited_multiple", "combined", "Row", "SPEED_LIMIT", "check_speed", "CALENDAR_LIMIT", "check_calendar"] : List Str) ++ (["open_ticks", "calendar_row", "worst_begin", "_law_cell", "_law_source", "_law_draw", "_law_open", "_law_any", "_law_outcome", "_law_worst", "_law_refused"] : List Str)
theorem run (w : World) : HandSHeadRun.RunEq R (PySem.W.view R.prog [35]) hk ob 6000 loose w := by
  intro os
  kernel_rfl
end LW

set_option Elab.async false
set_option linter.all false
set_option maxRecDepth 100000
set_option maxHeartbeats 0

open PySem PySem.W PySem.Calls PyProof.Rows in
set_option maxRecDepth 100000 in
set_option maxHeartbeats 0 in
theorem PySem.Challenge.cw_walkdues_k36_calendar_rows_holds : PySem.Challenge.rw_walkdues_k36_calendar_rows.Holds := by
  w_on; o_law
  refine HandSHeadRun.head_any (r := OpenLaw.row PySem.Challenge.rw_walkdues_k36_calendar_rows) (q := view (OpenLaw.row PySem.Challenge.rw_walkdues_k36_calendar_rows).prog [35]) (H := LW.hk) (ob := LW.ob) (M := 6000) (loose := LW.loose) (d := HandSHeadRun.topDef (OpenLaw.row PySem.Challenge.rw_walkdues_k36_calendar_rows).prog 35) (kwd := []) LW.ob_eq
    (by kernel_rfl) (fun s => by kernel_rfl) LW.run (by kernel_rfl) (by kernel_rfl) (by kernel_rfl) (by rfl) (by first | assumption | decide +kernel) (by decide +kernel) ⟨rfl, rfl, rfl, rfl, rfl, by decide +kernel⟩ ?hw ?hc
  case hw => w_witness2
  case hc =>
    refine L2.walk_ofE (l := PySem.Challenge.rw_walkdues_k36_calendar_rows) (n := 63) (k := 8) (x := "_law_script") (CX := L2.CX0) rfl (by decide) (by kernel_rfl) ⟨rfl, by decide, by decide⟩ ?F (fun _ _ _ _ z => z)
    intro w mg fa h Y G hmg0
    obtain ⟨K, KX, c⟩ := Y
    have hmg : mg ("law" : PySem.Str) = some (.ref fa) := by
      have e : (HandSHeadRun.topDef (OpenLaw.row PySem.Challenge.rw_walkdues_k36_calendar_rows).prog 35).name = ("law" : PySem.Str) := by kernel_rfl
      rw [← e]
      exact hmg0
    have T : LW.Txt K mg := ⟨c, h, KX, G⟩
    have e := hmg.symm.trans T.g_law
    cases e
    obtain ⟨fd, F⟩ := T.d_law
    have b := L2.FunD.bindsA (ps := ["_law_script"]) F fun _ _ _ _ _ _ us hl => match us, hl with | [_], _ => rfl
    exact ⟨K, fd, DL.liftSp K DL.spLaw, KX, fun s v => b s [v] rfl, fun H a ns hl _ hS => DL.law_sp H a ns hl hS, fun base _ _ => LW.law_ok T F⟩

